import PyProof.Rows.All
import Wide.All
import OpenK.AllK
import Wide.FinOn
import Lean
import PySem.Challenge.RW_xm0433_01
open PySem PySem.Calls PyProof.Rows
set_option Elab.async false
set_option maxRecDepth 100000
set_option linter.all false
set_option maxHeartbeats 4000000
set_option compiler.extract_closed false
section
namespace Smith
theorem nq1 {x0 : Nat} : (2 : Nat) ≤ x0 → (0 : Nat) < x0 := by intros; exact Nat.le_of_lt (by assumption)
theorem nq2  : (3 : Nat) < (2 : Nat) ^ (62 : Nat) := Nat.le_add_left _ _
theorem nq3 {x0 : Nat} : (0 : Int) ≤ (↑x0 : Int) := Int.natCast_nonneg _
theorem nq4  : (0 : Nat) + (1 : Nat) + (1 : Nat) ≤ (2 : Nat) ^ (24 : Nat) := Nat.le_add_left _ _
theorem nq5 {x0 x1 : Nat} : x0 < (2 : Nat) ^ (16 : Nat) → x1 ≤ x0 → x1 < (2 : Nat) ^ (22 : Nat) := by intros; exact Nat.lt_of_le_of_lt (by assumption) (Nat.lt_of_lt_of_le (by assumption) (by decide))
theorem nq6 {x0 : Nat} : x0 < (3 : Nat) → x0 < (3 : Nat) := by intros; assumption
theorem nq7 {x0 x1 : Nat} : x0 < x1 → x1 < (3 : Nat) → x0 < (3 : Nat) := by intros; exact Nat.lt_trans (by assumption) (by assumption)
theorem nq8  : (0 : Nat) ≤ (2 : Nat) ^ (24 : Nat) := Nat.le_add_left _ _
theorem nq9 {x0 x1 : Nat} : (0 : Int) ≤ (↑(x0 + x1) : Int) := Int.natCast_nonneg _
theorem nq10 {x0 : Nat} : x0 < (2 : Nat) ^ (24 : Nat) → x0 < (2 : Nat) ^ (62 : Nat) := by intros; exact Nat.lt_of_lt_of_le (by assumption) (by decide)
theorem nq11  : (0 : Nat) < (3 : Nat) := Nat.succ_pos _
theorem nq12 {x0 : Nat} : (0 : Nat) + (1 : Nat) ≤ x0 + (1 : Nat) := Nat.succ_pos _
theorem nq13 {x0 : Nat} : x0 < (3 : Nat) → x0 = (0 : Nat) ∨ x0 = (1 : Nat) ∨ x0 = (2 : Nat) := by intros; lia
theorem nq14  : (3 : Nat) < (2 : Nat) ^ (61 : Nat) := Nat.le_add_left _ _
theorem nq15 {x0 : Nat} : x0 ≤ (16 : Nat) → x0 ≤ (1000000 : Nat) := by intros; exact Nat.le_trans (by assumption) (by decide)
theorem nq16 {x0 : Nat} : x0 ≤ (2 : Nat) ^ (24 : Nat) → x0 < (2 : Nat) ^ (62 : Nat) := by intros; exact Nat.lt_of_le_of_lt (by assumption) (by decide)
theorem nq17  : (1 : Nat) < (3 : Nat) := Nat.le_add_left _ _
theorem nq18  : (2 : Nat) < (3 : Nat) := Nat.lt_succ_self _
theorem nq19 {x0 : Nat} : x0 < (2 : Nat) ^ (22 : Nat) → x0 < (2 : Nat) ^ (24 : Nat) := by intros; exact Nat.lt_of_lt_of_le (by assumption) (by decide)
theorem nq20 {x0 : Nat} : (0 : Nat) < x0 → (↑x0 : Int) ≠ (0 : Int) := by intros; lia
theorem nq21 {x0 : Int} : x0 < (0 : Int) → (↑x0.natAbs : Int) = -x0 := by intros; exact Int.ofNat_natAbs_of_nonpos (Int.le_of_lt (by assumption))
theorem nq22 {x0 : Int} : ¬x0 < (0 : Int) → (↑x0.natAbs : Int) = x0 := by intros; exact Int.natAbs_of_nonneg (Int.not_lt.mp (by assumption))
theorem nq23 {x0 : Int} : x0.natAbs = (0 : Nat) ↔ x0 = (0 : Int) := Int.natAbs_eq_zero
theorem nq24 {x0 : Nat} : (2 : Nat) ≤ x0 → (1 : Nat) < x0 := by intros; assumption
theorem nq25  : (0 : Int) ≤ (3 : Int) := Int.natCast_nonneg _
theorem nq26  : (3 : Int) < (2 : Int) ^ (62 : Nat) := Int.natCast_nonneg _
theorem nq27 {x0 : Nat} : x0 < (2 : Nat) ^ (23 : Nat) → x0 < (2 : Nat) ^ (62 : Nat) := by intros; exact Nat.lt_of_lt_of_le (by assumption) (by decide)
theorem nq28 {x0 : Nat} : (↑x0 : Int) ≤ (0 : Int) → x0 = (0 : Nat) := by intros; simp_all
theorem nq29 {x0 : Nat} : x0 < (2 : Nat) ^ (20 : Nat) → x0 < (2 : Nat) ^ (22 : Nat) := by intros; exact Nat.lt_of_lt_of_le (by assumption) (by decide)
theorem nq30 {x0 : Nat} : x0 < Int.toNat (2 : Int) → x0 < (3 : Nat) := by intros; exact Nat.lt_of_lt_of_le (by assumption) (by decide)
theorem nq31 {x0 : Nat} : (3 : Nat) ≤ x0 → (1 : Nat) ≤ x0 := by intros; lia
theorem nq32 {x0 x1 : Nat} : x0 < x1 → x0 ≤ x1 := by intros; exact Nat.le_of_lt (by assumption)
theorem nq33  : (0 : Nat) ≤ (1 : Nat) := Nat.zero_le _
theorem nq34 {x0 : Nat} : (0 : Nat) + (1 : Nat) ≤ x0 + (4 : Nat) := Nat.succ_pos _
theorem nq35 {x0 x1 : Nat} : x0 < x1 → x0 ≤ x1 - (1 : Nat) := by intros; omega
theorem nq36 {x0 : Nat} : x0 ≤ (8 : Nat) → x0 ≤ (16 : Nat) := by intros; exact Nat.le_trans (by assumption) (by decide)
theorem nq37 {x0 : Int} : (0 : Int) ≤ x0 → -(2 : Int) ^ (63 : Nat) ≤ x0 := by intros; lia
theorem nq38 {x0 : Nat} : (0 : Nat) + (1 : Nat) ≤ x0 + (2 : Nat) := Nat.succ_pos _
theorem nq39 {x0 : Nat} : x0 < (2 : Nat) ^ (22 : Nat) → x0 ≤ (2 : Nat) ^ (24 : Nat) := by intros; lia
theorem nq40 {x0 : Nat} : x0 < (2 : Nat) ^ (22 : Nat) → x0 < (2 : Nat) ^ (62 : Nat) := by intros; exact Nat.lt_of_lt_of_le (by assumption) (by decide)
theorem nq41 {x0 : Nat} : (0 : Nat) + (1 : Nat) ≤ x0 + (3 : Nat) := Nat.succ_pos _
theorem nq42 {x0 : Nat} : x0 < (2 : Nat) ^ (16 : Nat) → x0 ≤ (2 : Nat) ^ (20 : Nat) := by intros; lia
theorem nq43 {x0 : Nat} : (0 : Nat) + (3 : Nat) ≤ x0 + (5 : Nat) := Nat.le_add_left _ _
theorem nq44 {x0 : Int} : (0 : Int) ≤ x0 → ¬x0 < (0 : Int) := by intros; exact Int.not_lt.mpr (by assumption)
theorem nq45  : (0 : Int) ≤ (0 : Int) := Int.natCast_nonneg _
theorem nq46 {x0 : Int} : x0 ≠ (0 : Int) → (0 : Nat) < x0.natAbs := by intros; exact Int.natAbs_pos.mpr (by assumption)
theorem nq47 {x0 : Int} : (-x0).natAbs = x0.natAbs := Int.natAbs_neg _
theorem nq48  : (0 : Nat) < (1 : Nat) := Nat.lt_succ_self _
theorem nq49 {x0 x1 : Nat} : x0 < x1 → x0 ≠ x1 := by intros; exact Nat.ne_of_lt (by assumption)
theorem nq50 {x0 : Nat} : (0 : Nat) < x0 → x0 < (3 : Nat) → x0 = (1 : Nat) ∨ x0 = (2 : Nat) := by intros; lia
theorem nq51 {x0 : Nat} : (1 : Nat) ≤ x0 → x0 ≠ (0 : Nat) := by intros; exact Nat.ne_of_gt (by assumption)
theorem nq52 {x0 : Nat} : x0 ≤ (7000 : Nat) → (4 : Nat) * x0 + (3 : Nat) ≤ (60000 : Nat) := by intros; lia
theorem nq53 {x0 : Nat} : (0 : Nat) + (4 : Nat) ≤ x0 + (4 : Nat) := Nat.le_add_left _ _
theorem nq54 {x0 : Nat} : (0 : Nat) + (5 : Nat) ≤ x0 + (5 : Nat) := Nat.le_add_left _ _
theorem nq55 {x0 x1 : Nat} : x0 < (2 : Nat) ^ (20 : Nat) → x1 ≤ x0 → x1 < (2 : Nat) ^ (22 : Nat) := by intros; exact Nat.lt_of_le_of_lt (by assumption) (Nat.lt_of_lt_of_le (by assumption) (by decide))
theorem nq56 {x0 x1 : Nat} : (↑x0 : Int) = (↑x1 : Int) → x0 = x1 := by intros; exact Int.ofNat.inj (by assumption)
theorem nq57 {x0 : Nat} : x0 < Int.toNat (3 : Int) → x0 < (3 : Nat) := by intros; assumption
theorem nq58 {x0 x1 : Nat} : x0 < x1 → (0 : Nat) < x1 := by intros; lia
theorem nq59 {x0 x1 x2 x3 x4 : Nat} : x0 + x1 < x2 → x3 < x1 → x4 = x2 → (↑(x0 + x3) : Int) < (↑x4 : Int) := by intros; subst_vars; lia
theorem nq60 {x0 x1 x2 x3 : Nat} : x0 < (2 : Nat) ^ (24 : Nat) → x1 + x2 < x0 → x3 < x2 → (↑(x1 + x3) : Int) < (2 : Int) ^ (63 : Nat) := by intros; lia
theorem nq61 {x0 x1 x2 : Nat} : x0 < (2 : Nat) ^ (24 : Nat) → x1 + x2 < x0 → x2 < (2 : Nat) ^ (62 : Nat) := by intros; lia
theorem nq62 {x0 x1 x2 x3 : Nat} : x0 + x1 < x2 → x3 = x2 → (↑(x0 + x1) : Int) < (↑x3 : Int) := by intros; subst_vars; lia
theorem nq63 {x0 : Nat} : (0 : Int) < (↑x0 : Int) → (0 : Nat) < x0 := by intros; simp_all
theorem nq64 {x0 x1 : Nat} : x0 < ((3 : Int) - ((↑x1 : Int) + (1 : Int))).toNat → x1 + (1 : Nat) + x0 < (3 : Nat) := by intros; lia
theorem nq65 {x0 x1 : Nat} : x0 < x0 + (1 : Nat) + x1 := Nat.le_add_right _ _
theorem nq66 {x0 x1 : Nat} : x0 < (2 : Nat) ^ (24 : Nat) → x1 ≤ x0 → x1 < (2 : Nat) ^ (62 : Nat) := by intros; exact Nat.lt_of_le_of_lt (by assumption) (Nat.lt_of_lt_of_le (by assumption) (by decide))
theorem nq67 {x0 x1 : Nat} : (↑x0 : Int) < (↑x1 : Int) → x0 < x1 := by intros; exact Int.ofNat_lt.mp (by assumption)
theorem nq68 {x0 : Int} {x1 : Nat} : (0 : Int) ≤ x0 → -(↑x1 : Int) ≤ x0 := by intros; lia
theorem nq69 {x0 : Int} {x1 : Nat} : x0 < (↑x1 : Int) → x1 < (2 : Nat) ^ (62 : Nat) → x0 < (2 : Int) ^ (63 : Nat) := by intros; lia
theorem nq70 {x0 : Int} {x1 : Nat} : (0 : Int) ≤ x0 → x0 < (↑x1 : Int) → x0.toNat < x1 := by intros; simp_all
theorem nq71 {x0 x1 : Nat} : ¬x0 < x1 → x1 ≤ x0 := by intros; exact Nat.le_of_not_lt (by assumption)
theorem nq72  : (0 : Int) ≤ (2 : Int) := Int.natCast_nonneg _
theorem nq73 {x0 : Nat} : x0 + (1 : Nat) ≤ (3 : Nat) → x0 ≤ (3 : Nat) := by intros; exact Nat.le_of_lt (by assumption)
theorem nq74  : (1 : Nat) ≤ (1 : Nat) := Nat.lt_succ_self _
theorem nq75 {x0 : Int} : (-1 : Int) = (0 : Int) → x0 = (0 : Int) := by intros; exact absurd (by assumption) (by decide)
theorem nq76 {x0 : Int} : (1 : Int) = (0 : Int) → x0 = (0 : Int) := by intros; simp_all
theorem nq77 {x0 : Nat} : (1 : Nat) < x0 → x0 < (3 : Nat) → x0 = (2 : Nat) := by intros; lia
theorem nq78 {x0 : Nat} : x0 < (3 : Nat) → (0 : Nat) < x0 → x0 = (1 : Nat) ∨ x0 = (2 : Nat) := by intros; lia
theorem nq79 : ∀ {x0 x2 : Int} {y0 : Nat}, x0.natAbs < y0 → (1 : Nat) < y0 → x2.natAbs ≤ Max.max (1 : Nat) x0.natAbs → x2.natAbs < y0 := by intros; grind
theorem nq80 {x0 : Nat} : (0 : Nat) + (2 : Nat) ≤ x0 + (2 : Nat) := Nat.le_add_left _ _
theorem nq81 {x0 : Nat} : x0 < (2 : Nat) ^ (22 : Nat) → x0 < (2 : Nat) ^ (23 : Nat) := by intros; exact Nat.lt_of_lt_of_le (by assumption) (by decide)
theorem nq82 {x0 x1 : Nat} : x0 < Int.toNat (3 : Int) → x1 ≤ x0 → (↑x1 : Int) < (↑(3 : Nat) : Int) := by intros; lia
theorem nq83 {x0 : Nat} : (0 : Int) ≤ (↑x0 : Int) + (1 : Int) := Int.natCast_nonneg _
theorem nq84 {x0 x1 x2 : Nat} : x0 + (x1 + (1 : Nat)) ≤ x2 → x2 ≠ x0 + x1 := by intros; exact Nat.ne_of_gt (by assumption)
theorem nq85 {x0 x1 x2 : Nat} : x0 + (x1 + (1 : Nat)) ≤ x2 → x0 + x1 ≤ x2 := by intros; exact Nat.le_of_lt (by assumption)
theorem nq86 {x0 : Nat} : (0 : Nat) < x0 → (0 : Nat) < x0 := by intros; assumption
theorem nq87 {x0 x1 : Nat} : x0 < (2 : Nat) ^ (24 : Nat) → x1 = x0 → x1 < (2 : Nat) ^ (62 : Nat) := by intros; subst_vars; lia
theorem nq88 {x0 : Nat} : (↑x0 : Int) = (1 : Int) → x0 = (1 : Nat) := by intros; exact Int.ofNat.inj (by assumption)
theorem nq89 {x0 x1 x2 : Nat} : x0 - x1 = x2 → ((↑x0 : Int) - (↑x1 : Int) - (1 : Int) + (1 : Int)).toNat = x2 := by intros; simp_all
theorem nq90  : (0 : Nat) + (1 : Nat) < (2 : Nat) ^ (61 : Nat) := Nat.le_add_left _ _
theorem nq91 {x0 : Int} : x0 < (0 : Int) → -x0 = (↑x0.natAbs : Int) := by intros; exact (Int.ofNat_natAbs_of_nonpos (Int.le_of_lt (by assumption))).symm
theorem nq92 {x0 : Int} : ¬x0 < (0 : Int) → x0 = (↑x0.natAbs : Int) := by intros; exact (Int.natAbs_of_nonneg (Int.not_lt.mp (by assumption))).symm
theorem nq93  : (0 : Nat) + (1 : Nat) ≤ (2 : Nat) ^ (24 : Nat) := Nat.succ_pos _
theorem nq94 {x0 x1 : Nat} : x0 < (2 : Nat) ^ (16 : Nat) → x1 ≤ x0 → x1 < (2 : Nat) ^ (62 : Nat) := by intros; exact Nat.lt_of_le_of_lt (by assumption) (Nat.lt_of_lt_of_le (by assumption) (by decide))
theorem nq95 {x0 x1 : Nat} : x0 < (2 : Nat) ^ (16 : Nat) → x1 ≤ x0 + x0 → x1 < (2 : Nat) ^ (22 : Nat) := by intros; lia
theorem nq96 {x0 x1 : Nat} : x0 < ((↑x1 : Int) - (1 : Int) + (1 : Int)).toNat → (0 : Int) ≤ (↑x1 : Int) - (1 : Int) - (↑x0 : Int) := by intros; lia
theorem nq97 {x0 : Nat} : (0 : Nat) + (2 : Nat) ≤ x0 + (9 : Nat) := Nat.le_add_left _ _
theorem nq99 {x0 : Nat} : (1 : Nat) ≤ x0 → (0 : Nat) < x0 := by intros; assumption
theorem nq100 {x0 x1 : Nat} : x0 < x1 → x1 - (x0 + (1 : Nat)) < x1 - x0 := fun h => Nat.sub_lt_sub_left h (Nat.lt_succ_self _)
theorem nq101 {x0 : Int} : (0 : Int) ≤ x0 → -(2 : Int) ^ (62 : Nat) ≤ x0 := by intros; lia
theorem nq102 {x0 : Nat} : ((↑x0 : Int) - (1 : Int)).toNat = x0 - (1 : Nat) := by simp
theorem nq103 {x0 x1 : Nat} : x0 < x1 → (↑x0 : Int) < (↑x1 : Int) := by intros; exact Int.ofNat_lt.mpr (by assumption)
theorem nq104 {x0 : Nat} : x0 ≤ (1000000 : Nat) → (↑x0 : Int) ≤ (1000000 : Int) := by intros; exact Int.ofNat_le.mpr (by assumption)
theorem nq105 {x0 : Nat} : (0 : Nat) < x0 → x0 - (1 : Nat) < x0 := by intros; exact Nat.sub_lt (by assumption) (by decide)
theorem nq106  : (0 : Int) ≤ (1 : Int) := Int.natCast_nonneg _
theorem nq107 {x0 : Nat} : ¬x0 = (0 : Nat) → (0 : Nat) < x0 := by intros; exact Nat.pos_of_ne_zero (by assumption)
theorem nq108 {x0 : Nat} : ¬(0 : Nat) = x0 + (1 : Nat) := by lia
theorem nq109 {x0 x1 : Nat} : x0 + (1 : Nat) = x1 + (1 : Nat) → x0 = x1 := by intros; simp_all
theorem nq110 {x0 : Nat} : x0 = (0 : Nat) ∨ (0 : Nat) < x0 := by lia
theorem nq111 {x0 : Nat} : x0 ≤ x0 + x0 + (1 : Nat) := by lia
theorem nq112 {x0 : Nat} : x0 = (1 : Nat) ∨ x0 = (2 : Nat) → x0 < (3 : Nat) := by intros; lia
theorem nq113 {x0 : Nat} {x1 : Int} : x0 = (1 : Nat) ∨ x0 = (2 : Nat) ∧ x1 = (0 : Int) → x0 < (3 : Nat) := by intros; lia
theorem nq114 {x0 : Nat} : x0 ≤ (16 : Nat) → x0 ≤ (64 : Nat) := by intros; exact Nat.le_trans (by assumption) (by decide)
theorem nq115 {x0 x1 : Nat} : (x0 = (0 : Nat) ↔ x1 = (0 : Nat)) → (0 : Int) < (↑x0 : Int) → (0 : Nat) < x1 := by intros; lia
theorem nq116 {x0 x1 : Nat} : (x0 = (0 : Nat) ↔ x1 = (0 : Nat)) → (↑x0 : Int) ≤ (0 : Int) → x1 = (0 : Nat) := by intros; simp_all
theorem nq117 {x0 : Nat} : x0 < (2 : Nat) ^ (20 : Nat) → x0 < (2 : Nat) ^ (62 : Nat) := by intros; exact Nat.lt_of_lt_of_le (by assumption) (by decide)
theorem nq118 {x0 : Nat} : x0 < (2 : Nat) ^ (20 : Nat) → x0 < (2 : Nat) ^ (24 : Nat) := by intros; exact Nat.lt_of_lt_of_le (by assumption) (by decide)
theorem nq119 {x0 : Nat} : x0 ≤ (2 : Nat) ^ (22 : Nat) - (1 : Nat) → x0 < (2 : Nat) ^ (22 : Nat) := by intros; exact Nat.lt_of_le_of_lt (by assumption) (by decide)
theorem nq120 {x0 : Nat} : (0 : Nat) + (3 : Nat) ≤ x0 + (6 : Nat) := Nat.le_add_left _ _
theorem nq121 {x0 : Nat} : x0 < (3 : Nat) → x0 < (2 : Nat) ^ (24 : Nat) := by intros; exact Nat.lt_of_lt_of_le (by assumption) (by decide)
theorem nq122  : (3 : Nat) ≤ (3 : Nat) := Nat.lt_succ_self _
theorem nq123 {x0 x1 : Nat} : x0 ≤ (65536 : Nat) → x1 < x0 → x1 < (2 : Nat) ^ (64 : Nat) := by intros; exact Nat.lt_of_lt_of_le (by assumption) (Nat.le_trans (by assumption) (by decide))
theorem nq124 {x0 : Nat} : (0 : Nat) < x0 → x0 ≠ (0 : Nat) := by intros; exact Nat.ne_of_gt (by assumption)
theorem nq125 {x0 x1 x2 : Nat} : x0 = (2 : Nat) ^ x1 → x2 < x0 → x2 < (2 : Nat) ^ x1 := by intros; simp_all
theorem nq126 {x0 x1 x2 x3 x4 : Nat} : x0 + x1 < x2 → x3 < x1 → x4 = x2 → x0 + x3 < x4 := by intros; subst_vars; lia
theorem nq127 {x0 x1 x2 : Nat} : x0 < (2 : Nat) ^ (24 : Nat) → x1 + x2 < x0 → (↑(x1 + x2) : Int) < (2 : Int) ^ (63 : Nat) := by intros; lia
theorem nq128 {x0 x1 x2 x3 : Nat} : x0 + x1 < x2 → x3 = x2 → x0 + x1 < x3 := by intros; subst_vars; assumption
theorem nq129 {x0 x1 x2 : Nat} : x0 + x1 < x2 → x2 ≠ x0 + x1 := by intros; exact Nat.ne_of_gt (by assumption)
theorem nq130 {x0 x1 x2 : Nat} : x0 + x1 < x2 → x0 + x1 ≤ x2 := by intros; exact Nat.le_of_lt (by assumption)
theorem nq131 {x0 x1 : Nat} : x0 < x1 → x1 < (2 : Nat) ^ (24 : Nat) → x0 < (2 : Nat) ^ (62 : Nat) := by intros; lia
theorem nq132 {x0 x1 : Nat} : x0 < (2 : Nat) ^ (24 : Nat) → x1 = x0 → x1 ≤ (2 : Nat) ^ (24 : Nat) := by intros; subst_vars; lia
theorem nq133 {x0 x1 x2 : Nat} : x0 + x1 + (1 : Nat) ≤ x2 → x0 + x1 < x2 := by intros; assumption
theorem nq134 {x0 x1 : Nat} : x0 - (1 : Nat) - x1 = x0 - (x1 + (1 : Nat)) := by lia
theorem nq135 {x0 : Nat} : x0 = (3 : Nat) * (3 : Nat) → x0 < (2 : Nat) ^ (62 : Nat) := by intros; simp_all
theorem nq136 {x0 : Nat} : (0 : Nat) + (1 : Nat) ≤ x0 + (6 : Nat) := Nat.succ_pos _
theorem nq137 {x0 : Nat} : (0 : Int) < (↑x0 : Int) → ¬x0 = (0 : Nat) := by intros; lia
theorem nq138 {x0 x1 x2 : Nat} : x0 < x1 + (1 : Nat) + (x2 + (1 : Nat)) → x0 ≥ x1 + (1 : Nat) + x2 → x0 = x1 + (1 : Nat) + x2 := by intros; lia
theorem nq139 {x0 : Nat} : x0 < Int.toNat (3 : Int) → x0 ≤ (2 : Nat) ^ (24 : Nat) := by intros; lia
theorem nq140 {x0 x1 : Nat} : x0 < (↑x1 : Int).toNat → x0 < x1 := by intros; assumption
theorem nq141 {x0 x1 : Nat} : (↑x0 : Int) ≤ (↑x1 : Int) → x0 ≤ x1 := by intros; exact Int.ofNat_le.mp (by assumption)
theorem nq142 {x0 : Nat} : ((↑x0 : Int) - (1 : Int) + (1 : Int)).toNat = x0 := by simp
theorem nq143 {x0 : Nat} : x0 < (2 : Nat) ^ (62 : Nat) → (↑x0 : Int) < (9223372036854775808 : Int) := by intros; lia
theorem nq144 {x0 : Nat} : x0 ≤ (2 : Nat) ^ (24 : Nat) → x0 ≤ (2 : Nat) ^ (24 : Nat) := by intros; assumption
theorem nq145 {x0 : Nat} : (0 : Int) < (↑x0 : Int) → x0 = x0 - (1 : Nat) + (1 : Nat) := by intros; lia
theorem nq146 {x0 x1 : Nat} : x0 ≤ x1 → (0 : Int) < (↑x0 : Int) → x0 - (1 : Nat) < x1 := by intros; omega
theorem nq147 {x0 : Nat} : (↑x0 : Int) = (0 : Int) → x0 = (0 : Nat) := by intros; exact Int.ofNat.inj (by assumption)
theorem nq148 {x0 : Nat} : (0 : Nat) < x0 → -(↑x0 : Int) ≤ (-1 : Int) := by intros; lia
theorem nq149  : -(2 : Int) ^ (63 : Nat) ≤ (-1 : Int) := Int.natCast_nonneg _
theorem nq150  : (-1 : Int) < (2 : Int) ^ (63 : Nat) := Int.natCast_nonneg _
theorem nq151  : (-1 : Int) < (0 : Int) := Int.natCast_nonneg _
theorem nq152 {x0 : Nat} : ((-1 : Int) + (↑x0 : Int)).toNat = x0 - (1 : Nat) := by lia
theorem nq153 {x0 x1 x2 x3 : Nat} : x0 ≤ (8 : Nat) → x1 + (8 : Nat) * (0 : Nat) + (40 : Nat) < x2 → x1 + Min.min x0 x3 < x2 := by intros; lia
theorem nq154 {x0 : Nat} : (0 : Nat) < x0 → (0 : Int) < (↑x0 : Int) := by intros; exact Int.ofNat_lt.mpr (by assumption)
theorem nq155 {x0 x1 : Nat} : x0 < x1 → x0 + (1 : Nat) ≤ x1 := by intros; assumption
theorem nq156 {x0 x1 x2 : Nat} : x0 ≤ x1 → x2 < x0 → x2 ≤ x1 := by intros; lia
theorem nq157 {x0 : Int} : (1 : Nat) ≤ Max.max (1 : Nat) x0.natAbs := Nat.le_max_left _ _
theorem nq158 {x0 x1 : Int} : (-x0).natAbs ≤ x1.natAbs → (-x0).natAbs ≤ Max.max (1 : Nat) x1.natAbs := by intros; omega
theorem nq159 {x0 x1 : Int} : x0.natAbs ≤ Max.max (1 : Nat) x1.natAbs → (-x0).natAbs ≤ Max.max (1 : Nat) x1.natAbs := by intros; simp_all
theorem nq160 {x0 x1 : Int} : x0.natAbs ≤ Max.max (1 : Nat) x1.natAbs → x0.natAbs ≤ Max.max (1 : Nat) x1.natAbs := by intros; assumption
theorem nq161 {x0 : Int} : x0.natAbs = x0.natAbs := by simp
theorem nq162 {x0 x1 x2 : Nat} : x0 + x1 * x2 = (0 : Nat) → x1 * x2 = (0 : Nat) := by intros; simp_all
theorem nq163 {x0 x1 : Nat} : (2 : Nat) ≤ x0 → x0 = (0 : Nat) → x1 = (0 : Nat) := by intros; simp_all
theorem nq164 {x0 x1 : Nat} : x0 < x1 → x0 < x1 := by intros; assumption
theorem nq165 {x0 x1 : Nat} : x0 < x1 → x1 < (3 : Nat) → x0 = (0 : Nat) ∧ x1 = (1 : Nat) ∨ x0 = (0 : Nat) ∧ x1 = (2 : Nat) ∨ x0 = (1 : Nat) ∧ x1 = (2 : Nat) := fun h k => (show ∀ b, b < 3 → ∀ a, a < b → a = (0 : Nat) ∧ b = (1 : Nat) ∨ a = (0 : Nat) ∧ b = (2 : Nat) ∨ a = (1 : Nat) ∧ b = (2 : Nat) from by decide) _ k _ h
theorem nq166 {x0 : Nat} : x0 < (2 : Nat) → x0 = (0 : Nat) ∨ x0 = (1 : Nat) := by intros; lia
theorem nq167 {x0 x1 : Nat} : x0 < x1 → x1 < (3 : Nat) → x0 = (0 : Nat) ∨ x0 = (1 : Nat) ∧ x1 = (2 : Nat) := by intros; lia
theorem nq168 {x0 : Nat} : x0 ≠ (0 : Nat) → (0 : Nat) < x0 := by intros; exact Nat.pos_of_ne_zero (by assumption)
theorem nq169 {x0 x1 x2 x3 : Int} : x0 * x1 + x2 * x3 ≠ (0 : Int) → (x0 * x1 + x2 * x3).natAbs ≠ (0 : Nat) := by intros; simp_all
theorem nq170 {x0 : Nat} : (4 : Nat) * x0 + (2 : Nat) ≤ (4 : Nat) * x0 + (3 : Nat) := by simp
theorem nq171 {x0 : Nat} : (4 : Nat) * x0 + (4 : Nat) ≤ (4 : Nat) * (x0 + (1 : Nat)) := Nat.lt_succ_self _
theorem nq173 {x0 x1 : Int} {x2 : Nat} {x3 : Int} : ¬x0 = (0 : Int) → x1.natAbs < (2 : Nat) ^ x2 → x0.natAbs < (2 : Nat) ^ x2 → x3.natAbs ≤ Max.max (1 : Nat) x1.natAbs → x3.natAbs < (2 : Nat) ^ x2 := fun h a b k => Nat.lt_of_le_of_lt k (Nat.max_lt.mpr ⟨Nat.lt_of_le_of_lt (Int.natAbs_pos.mpr h) b, a⟩)
theorem nq172 {x0 : Int} {x1 : Nat} {x2 : Int} : ¬x0 = (0 : Int) → x0.natAbs < (2 : Nat) ^ x1 → x2.natAbs ≤ Max.max (1 : Nat) x0.natAbs → x2.natAbs < (2 : Nat) ^ x1 := fun h a k => nq173 h a a k
theorem nq174 {x0 : Nat} : x0 ≠ (0 : Nat) → (↑x0 : Int) ≠ (0 : Int) := by intros; simp_all
theorem nq175 {x0 x1 : Int} : x0.natAbs ≤ (4 : Nat) → x1.natAbs ≤ Max.max (1 : Nat) x0.natAbs → x1.natAbs ≤ (4 : Nat) := by intros; lia
theorem nq176 {x0 : Nat} : x0 ≤ x0 + (2 : Nat) := Nat.le_add_right _ _
theorem nq177 {x0 : Nat} : (2 : Nat) * x0 + (1 : Nat) + ((2 : Nat) * x0 + (1 : Nat)) + (1 : Nat) ≤ (4 : Nat) * x0 + (3 : Nat) := by lia
theorem nq178 {x0 : Nat} {x1 : Int} : (x0 = (0 : Nat) ↔ x1 = (0 : Int)) → (↑x0 : Int) ≠ (0 : Int) → ¬x1 = (0 : Int) := by intros; simp_all
theorem nq179 : ∀ {y0 : Int}, y0 ≤ (0 : Int) → -(↑y0.natAbs : Int) = y0 := by intros; lia
theorem nq180 {x0 : Nat} : (0 : Nat) + (2 : Nat) ≤ x0 + (3 : Nat) := Nat.le_add_left _ _
theorem nq181 {x0 : Nat} : (0 : Nat) + (3 : Nat) ≤ x0 + (3 : Nat) := Nat.le_add_left _ _
theorem nq182  : (0 : Int) ≤ (1 : Int) * (1 : Int) := Int.natCast_nonneg _
theorem nq183  : (1 : Int) * (0 : Int) ≤ (0 : Int) := Int.natCast_nonneg _
theorem nq184 {x0 x1 : Nat} : (1 : Int) * ((1 : Int) * (↑x0 : Int) - (0 : Int) * (↑x1 : Int)) = (↑x0 : Int) := by simp
theorem nq185 {x0 : Nat} : (1 : Nat) ≤ Max.max (1 : Nat) x0 := Nat.le_max_left _ _
theorem nq186 {x0 x1 : Int} : x0 * x1 ≤ (0 : Int) → (0 : Int) ≤ -(x0 * x1) := by intros; simp_all
theorem nq187 {x0 : Int} {x1 : Nat} {x2 : Int} {x3 : Nat} : (x0 - (↑x1 : Int) * x2).natAbs ≤ x3 → (x0 - (↑x1 : Int) * x2).natAbs ≤ Max.max (1 : Nat) x3 := by intros; omega
theorem nq188 {x0 : Nat} : x0 = (1 : Nat) → x0 < (2 : Nat) ^ (24 : Nat) := by intros; simp_all
theorem nq189 {x0 : Nat} : x0 = (0 : Nat) → x0 < (2 : Nat) ^ (24 : Nat) := by intros; simp_all
theorem nq190 {x0 x1 : Nat} : (x0 = (0 : Nat) ↔ x1 = (0 : Nat)) → (↑x0 : Int) = (0 : Int) → x1 = (0 : Nat) := by intros; simp_all
theorem nq191 {x0 x1 x2 : Nat} : x0 ≤ Max.max x1 x2 → x0 ≤ Max.max (1 : Nat) (Max.max x1 x2) := by intros; lia
theorem nq192 {x0 : Nat} : (0 : Nat) + (3 : Nat) ≤ x0 + (4 : Nat) := Nat.le_add_left _ _
theorem nq193 {x0 : Nat} : x0 < (2 : Nat) ^ (20 : Nat) + (1 : Nat) → x0 < (2 : Nat) ^ (22 : Nat) := by intros; exact Nat.lt_of_lt_of_le (by assumption) (by decide)
theorem nq194  : (↑(3 : Nat) : Int) < (2 : Int) ^ (62 : Nat) := Int.natCast_nonneg _
theorem nq195 {x0 x1 : Nat} : (↑x0 : Int) + (↑x1 : Int) = (↑(x0 + x1) : Int) := by simp
theorem nq196 {x0 x1 : Nat} : x0 ≤ x0 + x1 := Nat.le_add_right _ _
theorem nq197 {x0 x1 : Nat} : x0 < (2 : Nat) ^ (20 : Nat) → x1 ≤ x0 + x0 → x1 < (2 : Nat) ^ (22 : Nat) := by intros; lia
theorem nq198 {x0 : Nat} : x0 + (1 : Nat) ≤ (3 : Nat) → x0 < (3 : Nat) := by intros; assumption
theorem nq199 {x0 : Nat} : x0 < Int.toNat (3 : Int) → x0 ≤ (3 : Nat) := by intros; exact Nat.le_of_lt (by assumption)
theorem nq200 {x0 : Nat} : x0 < (2 : Nat) ^ (16 : Nat) → (8 : Nat) * x0 + (7 : Nat) < (2 : Nat) ^ (20 : Nat) := by intros; lia
theorem nq201 {x0 : Nat} : x0 < (3 : Nat) → (↑x0 : Int) < (↑(3 : Nat) : Int) := by intros; exact Int.ofNat_lt.mpr (by assumption)
theorem nq202 {x0 x1 : Nat} : (↑x0 : Int) ≠ (↑x1 : Int) → ¬x0 = x1 := by intros; lia
theorem nq203 {x0 x1 : Nat} : (0 : Int) ≤ (↑x0 : Int) + (1 : Int) + (↑x1 : Int) := Int.natCast_nonneg _
theorem nq204 {x0 x1 : Nat} : x0 < ((↑(3 : Nat) : Int) - ((↑x1 : Int) + (1 : Int))).toNat → (↑x1 : Int) + (1 : Int) + (↑x0 : Int) < (↑(3 : Nat) : Int) := by intros; omega
theorem nq205 {x0 x1 : Nat} : ((↑x0 : Int) + (1 : Int) + (↑x1 : Int)).toNat = x0 + (1 : Nat) + x1 := Int.toNat_natCast _
theorem nq206 {x0 x1 x2 x3 x4 : Nat} : x0 < x1 → x2 < x3 → x4 = x1 + x3 → (↑(x0 + x2) : Int) < (↑x4 : Int) := by intros; subst_vars; lia
theorem nq207 {x0 x1 : Nat} : x0 + (x1 + (1 : Nat)) = x0 + x1 + (1 : Nat) := Int.toNat_natCast _
theorem nq208 {x0 x1 : Nat} : x0 + x1 ≤ x0 + x1 := by simp
theorem nq209 {x0 x1 x2 : Nat} : x0 + (1 : Nat) + x1 ≤ x2 → x0 + x1 ≤ x2 := by intros; lia
theorem nq210 {x0 x1 : Nat} : x0 < x1 → (x1 - (1 : Nat)).succ = x1 := by intros; lia
theorem nq211 {x0 x1 : Nat} : x0 < x1 → x1 ≤ (65536 : Nat) → x0 < (1073741824 : Nat) := by intros; exact Nat.lt_of_lt_of_le (by assumption) (Nat.le_trans (by assumption) (by decide))
theorem nq212 {x0 x1 : Nat} : x0 ≤ (65536 : Nat) → x1 ≤ x0 - (1 : Nat) → x1 < (2 : Nat) ^ (64 : Nat) := by intros; omega
theorem nq213 {x0 x1 : Nat} : x0 < x1 → x1 ≤ (65536 : Nat) → x0 < (2 : Nat) ^ (64 : Nat) := by intros; exact Nat.lt_of_lt_of_le (by assumption) (Nat.le_trans (by assumption) (by decide))
theorem nq214 : ∀ {x0 x2 y0 : Nat}, x0 = y0 → x2 < x0 → (0 : Nat) < y0 := by intros; lia
theorem nq215 : ∀ {x0 y0 : Nat}, x0 = y0 → x0 ≤ (65536 : Nat) → y0 < (1073741824 : Nat) := by intros; subst_vars; lia
theorem nq216 {x0 x1 x2 : Nat} : x0 < x1 → x0 - x2 < x1 := by intros; omega
theorem nq217 {x0 x1 : Nat} : x0 + (3 : Nat) ≤ x1 → x0 < x1 := by intros; lia
theorem nq218 {x0 x1 : Nat} : x0 + (3 : Nat) ≤ x1 → x0 + (1 : Nat) < x1 := by intros; exact Nat.le_of_lt (by assumption)
theorem nq219 {x0 x1 : Nat} : x0 + (3 : Nat) ≤ x1 → x0 + (1 : Nat) + (1 : Nat) < x1 := by intros; assumption
theorem nq220 {x0 : Nat} : x0 ≤ x0 - (1 : Nat) + (1 : Nat) := by omega
theorem nq221 {x0 x1 : Nat} : x0 + x1 + (1 : Nat) = x1 + (x0 + (1 : Nat)) := by lia
theorem nq222 {x0 x1 x2 x3 x4 x5 : Nat} : (2 : Nat) ≤ x0 → x0 < x1 → x1 - x0 = x2 → x3 = x1 → x2 - (1 : Nat) - x4 = x5 → x5 + x0 - (2 : Nat) + (3 : Nat) ≤ x3 := by intros; subst_vars; omega
theorem nq223 {x0 : Nat} : (1 : Nat) ≤ x0 + (1 : Nat) := Nat.succ_pos _
theorem nq224 {x0 x1 : Nat} : x0 < (2 : Nat) ^ (24 : Nat) → x1 = x0 → x1 < (2 : Nat) ^ (24 : Nat) := by intros; subst_vars; assumption
theorem nq225 {x0 x1 : Nat} : x0 ≤ x1 ∧ x1 ≤ x0 + (1 : Nat) → x0 < x1 → x1 = x0 + (1 : Nat) := by intros; lia
theorem nq226 {x0 x1 : Nat} : x0 ≤ x1 ∧ x1 ≤ x0 + (1 : Nat) → x0 ≥ x1 → x1 = x0 := by intros; lia
theorem nq227 {x0 x1 : Nat} : (↑x0 : Int) < (↑x0 : Int) + (1 : Int) + (↑x1 : Int) := by lia
theorem nq228 {x0 x1 x2 x3 x4 : Nat} : x0 < (2 : Nat) ^ (24 : Nat) → x0 - x1 = x2 → x2 - (1 : Nat) - x3 = x4 → (↑x4 : Int) < (2 : Int) ^ (63 : Nat) := by intros; subst_vars; omega
theorem nq229 {x0 : Nat} : x0 ≠ (0 : Nat) → x0 - (1 : Nat) < x0 := by intros; lia
theorem nq230 {x0 x1 : Nat} : x0 - (1 : Nat) < x0 → ¬x1 = (0 : Nat) → (0 : Nat) < x1 := by intros; exact Nat.pos_of_ne_zero (by assumption)
theorem nq231 {x0 : Nat} : x0 - (1 : Nat) ≤ x0 := Nat.sub_le _ _
theorem nq232  : (0 : Nat) < (2 : Nat) ^ (61 : Nat) := Nat.succ_pos _
theorem nq233 {x0 : Nat} : x0 ≤ (2 : Nat) ^ (20 : Nat) → x0 < (2 : Nat) ^ (62 : Nat) := by intros; exact Nat.lt_of_le_of_lt (by assumption) (by decide)
theorem nq234 : ∀ {x0 y0 : Nat}, x0 = y0 → (2 : Nat) ≤ x0 → (0 : Nat) < y0 := by intros; lia
theorem nq235 {x0 : Nat} : (3 : Nat) * x0 + (3 : Nat) = (3 : Nat) * (x0 + (1 : Nat)) := Int.toNat_natCast _
theorem nq236 {x0 x1 : Nat} : x0 < (2 : Nat) ^ (16 : Nat) → x1 ≤ x0 → x1 < (2 : Nat) ^ (24 : Nat) := by intros; exact Nat.lt_of_le_of_lt (by assumption) (Nat.lt_of_lt_of_le (by assumption) (by decide))
theorem nq237 {x0 : Nat} : (0 : Nat) + (1 : Nat) ≤ x0 + (5 : Nat) := Nat.succ_pos _
theorem nq238 {x0 x1 : Nat} : x0 < (2 : Nat) ^ (16 : Nat) → x1 ≤ x0 → x1 < (2 : Nat) ^ (20 : Nat) := by intros; exact Nat.lt_of_le_of_lt (by assumption) (Nat.lt_of_lt_of_le (by assumption) (by decide))
theorem nq239 : ∀ {x0 x2 : Int} {y0 : Nat}, x0 ≠ (0 : Int) → x0.natAbs < y0 → x2.natAbs ≤ Max.max (1 : Nat) x0.natAbs → x2.natAbs < y0 := by intros; lia
theorem nq240 : ∀ {x1 x2 : Int} {y0 : Nat}, (1 : Nat) < y0 → x1.natAbs < y0 → x2.natAbs ≤ Max.max (1 : Nat) x1.natAbs → x2.natAbs < y0 := by intros; grind
theorem nq241 {x0 : Nat} : (-1 : Int) ≤ (↑x0 : Int) - (1 : Int) := by lia
theorem nq242 {x0 x1 : Nat} : (↑x0 : Int) ≠ (↑x1 : Int) → (↑x1 : Int) ≤ (↑x0 : Int) → x1 < x0 := by intros; lia
theorem nq243 {x0 x1 : Nat} : (↑x0 : Int) - (1 : Int) - (↑x1 : Int) < (↑x0 : Int) := by lia
theorem nq244 {x0 x1 x2 : Nat} : (↑x0 : Int) = (↑x1 : Int) → (↑x0 : Int) - (1 : Int) - (↑x2 : Int) < (↑x1 : Int) := by intros; lia
theorem nq245 {x0 x1 : Nat} : x0 < ((↑x1 : Int) - (1 : Int) + (1 : Int)).toNat → x1 - (1 : Nat) - x0 < x1 := by intros; omega
theorem nq246  : (2 : Int) < (2 : Int) ^ (62 : Nat) := Int.natCast_nonneg _
theorem nq247 {x0 : Nat} : (↑x0 : Int) ≠ (1 : Int) → ¬x0 = (1 : Nat) := by intros; lia
theorem nq248 {x0 : Nat} : x0 < Int.toNat (2 : Int) → (↑x0 : Int) + (1 : Int) < (2 : Int) ^ (62 : Nat) := by intros; lia
theorem nq249 {x0 : Nat} {x1 : Int} : (x0 = (0 : Nat) ↔ x1 = (0 : Int)) → (0 : Int) < (↑x0 : Int) → x1 ≠ (0 : Int) := by intros; lia
theorem nq250 {x0 : Nat} : (1 : Nat) ≤ x0 + (9 : Nat) := Nat.succ_pos _
theorem nq251 {x0 : Nat} : x0 ≤ (10 : Nat) → x0 ≤ (2 : Nat) ^ (20 : Nat) := by intros; exact Nat.le_trans (by assumption) (by decide)
theorem nq252 {x0 : Nat} : x0 < (9 : Nat) → ((↑x0 : Int) - (4 : Int)).natAbs ≤ (4 : Nat) := by intros; omega
theorem nq253 {x0 : Nat} : ¬x0 < x0 := by simp
theorem nq254 {x0 : Nat} : (0 : Nat) + (1 : Nat) ≤ x0 + (9 : Nat) := Nat.succ_pos _
theorem nq255 {x0 x1 : Nat} : x0 < (3 : Nat) → x1 < (3 : Nat) → x0 ≠ x1 → x0 = (0 : Nat) ∧ x1 = (1 : Nat) ∨ x0 = (0 : Nat) ∧ x1 = (2 : Nat) ∨ x0 = (1 : Nat) ∧ x1 = (0 : Nat) ∨ x0 = (2 : Nat) ∧ x1 = (0 : Nat) ∨ x0 = (1 : Nat) ∧ x1 = (2 : Nat) ∨ x0 = (2 : Nat) ∧ x1 = (1 : Nat) := fun h k l => ((show ∀ a, a < 3 → ∀ b, b < 3 → a = b ∨ (a = (0 : Nat) ∧ b = (1 : Nat) ∨ a = (0 : Nat) ∧ b = (2 : Nat) ∨ a = (1 : Nat) ∧ b = (0 : Nat) ∨ a = (2 : Nat) ∧ b = (0 : Nat) ∨ a = (1 : Nat) ∧ b = (2 : Nat) ∨ a = (2 : Nat) ∧ b = (1 : Nat)) from by decide) _ h _ k).resolve_left l
theorem nq256 {x0 : Nat} : x0 ≤ (64 : Nat) → x0 ≤ (1000000 : Nat) := by intros; exact Nat.le_trans (by assumption) (by decide)
theorem nq257 {x0 x1 : Nat} : x0 < (2 : Nat) ^ (24 : Nat) → x1 ≤ x0 → (↑x1 : Int) < (2 : Int) ^ (62 : Nat) := by intros; lia
theorem nq258 {x0 x1 x2 : Nat} : x0 ≤ x1 → x2 < (↑x0 : Int).toNat → x2 < x1 := by intros; exact Nat.lt_of_lt_of_le (by assumption) (by assumption)
theorem nq259 {x0 x1 : Nat} : x0 / x1 < (2 : Nat) → x0 / x1 ≤ (1 : Nat) := by intros; exact Nat.le_of_lt_succ (by assumption)
theorem nq260 {x0 : Nat} : x0 < (2 : Nat) ^ (24 : Nat) → (↑x0 : Int) < (2 : Int) ^ (62 : Nat) := by intros; lia
theorem nq261 {x0 x1 x2 : Nat} : x0 < ((↑x1 : Int) - (↑x2 : Int)).toNat → x2 + x0 < x1 := by intros; omega
theorem nq262 {x0 x1 : Nat} : x0 ≤ x1 → x0 + ((↑x1 : Int) - (↑x0 : Int)).toNat = x1 := by intros; simp_all
theorem nq263 {x0 : Nat} : x0 < (2 : Nat) ^ (24 : Nat) → x0 < (2 : Nat) ^ (24 : Nat) := by intros; assumption
theorem nq264 {x0 : Nat} : x0 ≤ (16 : Nat) → x0 < (1073741824 : Nat) := by intros; exact Nat.lt_of_le_of_lt (by assumption) (by decide)
theorem nq265  : (0 : Int) ≤ (↑(0 : Nat) : Int) := Int.natCast_nonneg _
theorem nq267 {x0 x1 : Nat} : x0 < ((↑x1 : Int) - (↑(0 : Nat) : Int)).toNat → x0 < x1 := by intros; assumption
theorem nq268 {x0 : Nat} : ((↑x0 : Int) + (1 : Int)).toNat = x0 + (1 : Nat) := Int.toNat_natCast _
theorem nq269 {x0 : Nat} : ((↑x0 : Int) - (↑(0 : Nat) : Int)).toNat = x0 := Int.toNat_natCast _
theorem nq270 {x0 x1 x2 : Nat} : x0 + (x1 + (1 : Nat)) < x2 → x0 + (1 : Nat) + x1 < x2 := by intros; lia
theorem nq271 {x0 x1 x2 : Nat} : x0 + (8 : Nat) * (x1 + (1 : Nat)) + (40 : Nat) < x2 → x0 + (3 : Nat) + (8 : Nat) * x1 + (40 : Nat) < x2 := by intros; lia
theorem nq272  : (0 : Nat) ≤ (16777216 : Nat) := Nat.zero_le _
theorem nq273 {x0 x1 : Nat} : x0 < x1 → (0 : Int) < (↑x1 : Int) - (↑x0 : Int) := by intros; simp_all
theorem nq274 {x0 x1 : Nat} : (↑x0 : Int) - (↑(x1 + (1 : Nat)) : Int) = (↑x0 : Int) - (↑x1 : Int) - (1 : Int) := by lia
theorem nq275 {x0 : Nat} : (↑x0 : Int) - (↑x0 : Int) ≤ (0 : Int) := by simp
theorem nq276  : -(2 : Int) ^ (62 : Nat) ≤ (0 : Int) := Int.natCast_nonneg _
theorem nq277  : (0 : Int) < (2 : Int) ^ (62 : Nat) := Int.natCast_nonneg _
theorem nq278 {x0 : Int} : (0 : Int) ≤ x0 → x0 - (0 : Int) = (↑x0.toNat : Int) := by intros; lia
theorem nq279 {x0 : Int} : ¬(0 : Int) < x0 → (0 : Int) = (↑x0.toNat : Int) := by intros; lia
theorem nq280 {x0 x1 : Int} : x0 < x1 → x1 - x0 = (↑(x1 - x0).toNat : Int) := by intros; grind
theorem nq281 {x0 x1 : Int} : ¬x0 < x1 → (0 : Int) = (↑(x1 - x0).toNat : Int) := by intros; lia
theorem nq282 {x0 : Int} : (-1 : Int) ≤ x0 → -(2 : Int) ^ (62 : Nat) ≤ x0 := by intros; lia
theorem nq283 {x0 : Int} : (↑(x0 - (-1 : Int)).toNat : Int) = (↑(x0 + (1 : Int)).toNat : Int) := by simp
theorem nq284 {x0 : Int} : ¬x0 < (0 : Int) → (0 : Int) ≤ x0 := by intros; simp_all
theorem nq285 {x0 : Nat} : -(2 : Int) ^ (63 : Nat) ≤ (↑x0 : Int) := Int.natCast_nonneg _
theorem nq286 {x0 : Nat} : ¬(↑x0 : Int) < (0 : Int) := by simp
theorem nq287 {x0 : Int} : -(2 : Int) ^ (63 : Nat) ≤ x0 → x0 ≤ (2 : Int) ^ (24 : Nat) → (-9223372036854775808 : Int) ≤ x0 ∧ x0 < (9223372036854775808 : Int) := by intros; lia
theorem nq288 {x0 : Int} : x0 ≤ (2 : Int) ^ (24 : Nat) → x0 ≤ (1152921504606846975 : Int) := by intros; lia
theorem nq289 {x0 : Int} : x0 ≤ (2 : Int) ^ (24 : Nat) → x0 ≤ (16777216 : Int) := by intros; assumption
theorem nq290 {x0 x1 : Nat} : x0 ≤ x1 → (Max.max (0 : Int) (Min.min (if (↑x0 : Int) < (0 : Int) then (↑x0 : Int) + (↑x1 : Int) else (↑x0 : Int)) (↑x1 : Int))).toNat = x0 := by intros; grind
theorem nq291 {x0 : Nat} : (0 : Int) < (↑x0 : Int) → (0 : Int) ≤ (↑x0 : Int) - (1 : Int) := by intros; lia
theorem nq292 {x0 x1 : Nat} : x0 ≤ x1 → (↑x0 : Int) - (1 : Int) < (↑x1 : Int) := by intros; lia
theorem nq293 {x0 : Nat} : (0 : Int) < (↑x0 : Int) → x0 - (1 : Nat) < x0 := by intros; omega
theorem nq294 {x0 : Nat} : (0 : Int) < (↑x0 : Int) → (↑x0 : Int) - (1 : Int) = (↑(x0 - (1 : Nat)) : Int) := by intros; lia
theorem nq295 {x0 x1 : Nat} : x0 ≤ x1 → x0 - (1 : Nat) ≤ x1 := by intros; omega
theorem nq296 {x0 : Nat} : (↑x0 : Int) ≠ (0 : Int) → x0 ≠ (0 : Nat) := by intros; simp_all
theorem nq297 : ∀ {y0 : Nat}, (0 : Nat) < y0 → (↑y0 : Int) - (1 : Int) = (↑(y0 - (1 : Nat)) : Int) := by intros; lia
theorem nq298 {x0 : Nat} : (0 : Int) ≤ (↑((2 : Nat) ^ x0 - (1 : Nat)) : Int) := Int.natCast_nonneg _
theorem nq299 {x0 x1 : Nat} : (0 : Int) ≤ (↑(x0 * (2 : Nat) ^ x1) : Int) := Int.natCast_nonneg _
theorem nq300 : ∀ {x2 x3 x4 y0 : Nat}, y0 + x2 = x3 → x3 + x4 = y0 + x2 → (↑y0 : Int) + (↑x2 : Int) - (↑x4 : Int) = (↑(y0 + x2) : Int) := by intros; subst_vars; lia
theorem nq301 {x0 : Nat} : x0 < (1073741824 : Nat) → (↑x0 : Int).natAbs < (1073741824 : Nat) := by intros; assumption
theorem nq302  : (0 : Nat) ≤ (64 : Nat) := Nat.zero_le _
theorem nq303 {x0 : Nat} : x0 < (64 : Nat) → x0 + (1 : Nat) ≤ (64 : Nat) := by intros; assumption
theorem nq305 {x0 : Nat} {x1 : Int} : x0 + x1.toNat ≤ (2 : Nat) ^ (24 : Nat) → x1 ≤ (2 : Int) ^ (24 : Nat) := by intros; lia
theorem nq306 {x0 x1 : Nat} : ¬x0 = x1 → ¬(↑x0 : Int) = (↑x1 : Int) := by intros; lia
theorem nq307 {x0 x1 x2 : Nat} : x0 + x1 ≤ x2 → x0 ≤ x2 := by intros; lia
theorem nq308 {x0 x1 x2 : Nat} : x0 + x1 ≤ x2 → x0 + x1 ≤ x2 + (1 : Nat) := by intros; lia
theorem nq309 {x0 : Nat} : (0 : Int) < (↑(x0 + (1 : Nat)) : Int) := by simp
theorem nq310 {x0 : Nat} : x0 < (2 : Nat) ^ (61 : Nat) → x0 + (1 : Nat) < (2 : Nat) ^ (62 : Nat) := by intros; exact Nat.lt_of_le_of_lt (by assumption) (by decide)
theorem nq311 {x0 : Nat} : (1 : Int) < (↑(x0 + (1 : Nat) + (1 : Nat)) : Int) := by lia
theorem nq312 {x0 : Nat} : x0 < (2 : Nat) ^ (61 : Nat) → x0 + (1 : Nat) + (1 : Nat) < (2 : Nat) ^ (62 : Nat) := by intros; lia
theorem nq313 {x0 : Int} {x1 : Nat} : x0 < (↑x1 : Int) → x0 < (↑x1 : Int) := by intros; assumption
theorem nq314 {x0 : Nat} : x0 < (2 : Nat) ^ (61 : Nat) → x0 < (2 : Nat) ^ (62 : Nat) := by intros; exact Nat.lt_of_lt_of_le (by assumption) (by decide)
theorem nq315 {x0 : Nat} : (1 : Nat) < x0 → (1 : Int) < (↑x0 : Int) := by intros; exact Int.ofNat_lt.mpr (by assumption)
theorem nq316 {x0 : Nat} : (2 : Nat) < x0 → (2 : Int) < (↑x0 : Int) := by intros; exact Int.ofNat_lt.mpr (by assumption)
theorem nq317 {x0 : Nat} : (0 : Nat) ≤ x0 := Nat.zero_le _
theorem nq318 {x0 x1 x2 x3 : Int} : x0 = (0 : Int) → x1 * x2 + x0 = x3 → x1 * x2 = x3 := by intros; simp_all
theorem nq319 {x0 x1 : Int} : x0.natAbs ≤ x1.natAbs → x0.natAbs ≤ Max.max (1 : Nat) x1.natAbs := by intros; lia
theorem nq320 {x0 x1 : Int} : (x0 < (0 : Int) ↔ x1 < (0 : Int)) → x1 < (0 : Int) → ¬-x0 < (0 : Int) := by intros; lia
theorem nq321 {x0 x1 : Int} : (x0 < (0 : Int) ↔ x1 < (0 : Int)) → ¬x1 < (0 : Int) → ¬x0 < (0 : Int) := by intros; simp_all
theorem nq322 {x0 x1 : Int} : ¬(x0 < (0 : Int) ↔ x1 < (0 : Int)) → x1 < (0 : Int) → (¬x0 = (0 : Int) ↔ -x0 < (0 : Int)) := by intros; lia
theorem nq323 {x0 x1 : Int} : ¬(x0 < (0 : Int) ↔ x1 < (0 : Int)) → ¬x1 < (0 : Int) → (¬x0 = (0 : Int) ↔ x0 < (0 : Int)) := by intros; grind
theorem nq324 {x0 : Int} : x0 < (0 : Int) → ¬-x0 < (0 : Int) := by intros; lia
theorem nq325 {x0 : Int} : (0 : Int) ≤ x0 → (¬x0 = (0 : Int) ↔ -x0 < (0 : Int)) := by intros; lia
theorem nq326 {x0 x1 : Nat} : ¬(x0 = (0 : Nat) ∨ x1 < (2 : Nat)) → (0 : Nat) < x0 := by intros; lia
theorem nq327 {x0 x1 : Nat} : ¬(x0 = (0 : Nat) ∨ x1 < (2 : Nat)) → (1 : Nat) < x1 := by intros; omega
theorem nq328 {x0 x1 : Nat} : (2 : Nat) ≤ x0 → x1 ≠ (0 : Nat) → ¬(x1 = (0 : Nat) ∨ x0 < (2 : Nat)) := by intros; simp_all
theorem nq329 : ∀ {x0 x1 y0 y1 : Nat}, x0 < x1 → y0 + x1 * (1 : Nat) ≤ y1 → x0 + y0 < y1 := by intros; lia
theorem nq330 {x0 x1 x2 : Nat} : x0 + x1 * x2 = (0 : Nat) → x0 = (0 : Nat) := by intros; simp_all
theorem nq331 {x0 x1 : Nat} : x0 / x1 = (0 : Nat) → (0 : Nat) < x0 / x1 → x0 < x1 := by intros; lia
theorem nq332 : ∀ {x0 x2 y0 : Nat}, x0 ≤ x0 - (1 : Nat) → (0 : Nat) < x0 → y0 ≤ x2 := by intros; omega
theorem nq333 : ∀ {x2 y0 : Nat}, y0 ≤ x2 → x2 < y0 → False := by intros; lia
theorem nq334  : (0 : Nat) ≤ (0 : Nat) := Nat.zero_le _
theorem nq335  : (0 : Nat) ≤ (2 : Nat) := Nat.zero_le _
theorem nq336  : (1 : Nat) ≤ (2 : Nat) := Nat.succ_pos _
theorem nq337  : (2 : Nat) ≤ (2 : Nat) := Nat.lt_succ_self _
theorem nq338 {x0 x1 : Nat} : x0 = x1 → x0 = x1 := by intros; assumption
theorem nq339  : (0 : Nat) < (2 : Nat) := Nat.succ_pos _
theorem nq340  : (1 : Nat) < (2 : Nat) := Nat.lt_succ_self _
theorem nq341  : ¬(2 : Nat) = (1 : Nat) := by decide
theorem nq342  : ¬(2 : Nat) < (2 : Nat) := by simp
theorem nq343 {x0 : Nat} : x0 < (3 : Nat) → (2 : Nat) ≤ x0 → x0 = (2 : Nat) := by intros; lia
theorem nq344 {x0 : Int} {x1 : Nat} : x0 ≠ (0 : Int) → x0.natAbs = x1 * (0 : Nat) → False := by intros; simp_all
theorem nq345 {x0 x1 : Int} : x0.natAbs ≤ (16 : Nat) → x1.natAbs ≤ (16 : Nat) → (x0 - x1).natAbs ≤ (32 : Nat) := fun h k => Nat.le_trans (Int.natAbs_sub_le _ _) (Nat.add_le_add h k)
theorem nq346 {x0 x1 x2 x3 x4 x5 x6 x7 x8 : Int} : (x0 * (x1 * x2 - x3 * x4)).natAbs ≤ (128 : Nat) → (x5 * (x6 * x2 - x3 * x7)).natAbs ≤ (128 : Nat) → (x8 * (x6 * x4 - x1 * x7)).natAbs ≤ (128 : Nat) → (x0 * (x1 * x2 - x3 * x4) - x5 * (x6 * x2 - x3 * x7) + x8 * (x6 * x4 - x1 * x7)).natAbs ≤ (384 : Nat) := fun h k l => Nat.le_trans (Int.natAbs_add_le _ _) (Nat.add_le_add (Nat.le_trans (Int.natAbs_sub_le _ _) (Nat.add_le_add h k)) l)
theorem nq347 {x0 : Nat} : ¬x0 + (1 : Nat) ≤ (0 : Nat) := by simp
theorem nq348 {x0 x1 : Nat} : x0 + (1 : Nat) ≤ x1 + (1 : Nat) → x0 ≤ x1 := by intros; exact Nat.le_of_lt_succ (by assumption)
theorem nq349 {x0 x1 x2 : Nat} : x0 < x1 → x1 < (3 : Nat) → x0 < x2 → x2 < (3 : Nat) → x0 = (0 : Nat) ∨ x0 = (1 : Nat) ∧ x1 = (2 : Nat) ∧ x2 = (2 : Nat) := by intros; lia
theorem nq350 {x0 : Int} {x1 x2 : Nat} : x0.natAbs < (2 : Nat) ^ x1 → x2 ≤ x0.natAbs → x2 < (2 : Nat) ^ x1 := by intros; exact Nat.lt_of_le_of_lt (by assumption) (by assumption)
theorem nq351 {x0 x1 : Nat} : x0 ≠ (0 : Nat) → (2 : Nat) * x0 ≤ x1 → x1 < (2 : Nat) ^ ((0 : Nat) + (1 : Nat)) → ∃ e', (0 : Nat) = e' + (1 : Nat) ∧ x0 < (2 : Nat) ^ (e' + (1 : Nat)) := by intros; lia
theorem nq352 : ∀ {x0 x1 y0 : Nat}, (2 : Nat) * x0 ≤ x1 → x1 < y0 * (2 : Nat) → x0 < y0 := by intros; lia
theorem nq353 {x0 x1 : Int} : x0 ≠ (0 : Int) → x1.natAbs ≤ Max.max (1 : Nat) x0.natAbs → x1.natAbs ≤ x0.natAbs := by intros; lia
theorem nq354 {x0 : Nat} : (4 : Nat) * x0 + (1 : Nat) ≤ (4 : Nat) * x0 + (3 : Nat) := by simp
theorem nq355 {x0 : Nat} : (4 : Nat) * x0 + (2 : Nat) ≤ (4 : Nat) * x0 + (4 : Nat) := by simp
theorem nq356 {x0 : Nat} : (4 : Nat) * x0 ≤ (4 : Nat) * x0 + (3 : Nat) := Nat.le_add_right _ _
theorem nq357 {x0 : Nat} : (4 : Nat) * x0 + (3 : Nat) ≤ (4 : Nat) * (x0 + (1 : Nat)) := by lia
theorem nq358 {x0 x1 : Nat} : x0 + x0 + (1 : Nat) ≤ x1 → x0 ≤ x1 := by intros; lia
theorem nq359  : (1 : Nat) ≤ (35 : Nat) := Nat.succ_pos _
theorem nq360 {x0 : Int} : ¬x0 = (0 : Int) → x0.natAbs ≠ (0 : Nat) := by intros; simp_all
theorem nq361  : (3 : Nat) ≤ (36 : Nat) := Nat.le_add_left _ _
theorem nq362  : (2 : Nat) ≤ (36 : Nat) := Nat.le_add_left _ _
theorem nq363  : (35 : Nat) ≤ (36 : Nat) := Nat.le_add_left _ _
theorem nq364 {x0 : Nat} : ¬x0 + (2 : Nat) ≤ (1 : Nat) := by simp
theorem nq365 {x0 : Int} : ¬x0 = (0 : Int) → (0 : Nat) < x0.natAbs := by intros; exact Int.natAbs_pos.mpr (by assumption)
theorem nq366 {x0 : Nat} {x1 : Int} : (2 : Nat) * x0 ≤ x1.natAbs → x1.natAbs ≤ (4 : Nat) → x0 ≤ (4 : Nat) := by intros; lia
theorem nq367 {x0 : Nat} : x0 + (1 : Nat) ≤ (2 : Nat) → x0 ≤ (1 : Nat) := by intros; exact Nat.le_of_lt_succ (by assumption)
theorem nq368 {x0 : Nat} : (4 : Nat) * x0 + (3 : Nat) + (2 : Nat) ≤ (4 : Nat) * x0 + (5 : Nat) := Nat.lt_succ_self _
theorem nq369 {x0 : Nat} : ¬x0 = (0 : Nat) → (0 : Nat) ≠ x0 := by intros; lia
theorem nq370 {x0 : Nat} : x0 = (1 : Nat) ∨ x0 = (2 : Nat) → (0 : Nat) ≠ x0 := by intros; lia
theorem nq371 {x0 : Nat} : (36 : Nat) + (7 : Nat) * x0 + (1 : Nat) ≤ (36 : Nat) + (7 : Nat) * x0 + (2 : Nat) := by simp
theorem nq372 {x0 : Nat} : (36 : Nat) + (7 : Nat) * x0 ≤ (36 : Nat) + (7 : Nat) * x0 + (1 : Nat) := Nat.le_add_right _ _
theorem nq373 {x0 : Nat} : x0 ≤ (7000 : Nat) → (4 : Nat) * x0 + (3 : Nat) ≤ (29999 : Nat) := by intros; lia
theorem nq374 {x0 : Nat} : (36 : Nat) ≤ (36 : Nat) + (7 : Nat) * x0 + (3 : Nat) := by lia
theorem nq375 {x0 : Nat} : (36 : Nat) + (7 : Nat) * x0 + (3 : Nat) ≤ (36 : Nat) + (7 : Nat) * x0 + (4 : Nat) := by simp
theorem nq376 {x0 : Nat} : (36 : Nat) + (7 : Nat) * x0 + (2 : Nat) ≤ (36 : Nat) + (7 : Nat) * x0 + (5 : Nat) := by simp
theorem nq377 {x0 : Nat} : (36 : Nat) + (7 : Nat) * x0 + (4 : Nat) ≤ (36 : Nat) + (7 : Nat) * x0 + (5 : Nat) := by simp
theorem nq378 {x0 : Nat} {x1 : Int} : x0 = (1 : Nat) ∨ x0 = (2 : Nat) ∧ x1 = (0 : Int) → (0 : Nat) ≠ x0 := by intros; lia
theorem nq379 {x0 x1 : Nat} : x0 + x0 + (1 : Nat) ≤ (4 : Nat) * x1 + (3 : Nat) → x0 + x0 + (1 : Nat) ≤ (4 : Nat) * x1 + (5 : Nat) := by intros; lia
theorem nq380 {x0 : Nat} : (2 : Nat) * x0 + (1 : Nat) ≤ (4 : Nat) * x0 + (3 : Nat) := by lia
theorem nq381 {x0 : Nat} : (36 : Nat) + (7 : Nat) * x0 + (5 : Nat) ≤ (36 : Nat) + (7 : Nat) * x0 + (6 : Nat) := by simp
theorem nq382 {x0 : Nat} : x0 ≤ (7000 : Nat) → (2 : Nat) * x0 + (1 : Nat) ≤ (60000 : Nat) := by intros; lia
theorem nq383 {x0 : Nat} : (1 : Nat) ≤ (2 : Nat) * x0 + (1 : Nat) := Nat.succ_pos _
theorem nq384 {x0 : Nat} : (36 : Nat) + (7 : Nat) * x0 ≤ (36 : Nat) + (7 : Nat) * x0 + (5 : Nat) := Nat.le_add_right _ _
theorem nq385 {x0 : Nat} : x0 ≤ (2 : Nat) * x0 + (1 : Nat) := by lia
theorem nq386 {x0 : Nat} : (36 : Nat) + (7 : Nat) * x0 + (6 : Nat) ≤ (36 : Nat) + (7 : Nat) * x0 + (7 : Nat) := by simp
theorem nq387 {x0 : Nat} : x0 ≤ (7000 : Nat) → x0 ≤ (60000 : Nat) := by intros; exact Nat.le_trans (by assumption) (by decide)
theorem nq388 {x0 : Nat} : (420 : Nat) ≤ x0 → (1 : Nat) ≤ x0 := by intros; lia
theorem nq389 {x0 : Nat} : x0 + x0 + (1 : Nat) ≤ (4 : Nat) * x0 + (3 : Nat) := by lia
theorem nq390 {x0 : Nat} : (36 : Nat) + (7 : Nat) * x0 ≤ (36 : Nat) + (7 : Nat) * x0 + (6 : Nat) := Nat.le_add_right _ _
theorem nq391 {x0 : Nat} : x0 + x0 + (1 : Nat) ≤ (2 : Nat) * x0 + (1 : Nat) := by lia
theorem nq392 {x0 : Nat} : x0 + (1 : Nat) ≤ (2 : Nat) → x0 ≤ (2 : Nat) := by intros; exact Nat.le_of_lt (by assumption)
theorem nq393 {x0 : Int} {x1 : Nat} : x0.natAbs ≤ (4 : Nat) → x1 ≠ (0 : Nat) → x1 ≤ x0.natAbs → (↑x1 : Int) ≠ (0 : Int) ∧ x1 ≤ (4 : Nat) := by intros; lia
theorem nq394 {x0 x1 : Nat} : (x0 = (0 : Nat) ↔ x1 = (0 : Nat)) → ((0 : Int) < (↑x0 : Int) ↔ x1 ≠ (0 : Nat)) := by intros; lia
theorem nq395 {x0 x1 : Nat} : (x0 = (0 : Nat) ↔ x1 = (0 : Nat)) → ((0 : Int) < (↑x0 : Int) ↔ -(↑x1 : Int) < (0 : Int)) := by intros; lia
theorem nq396 {x0 : Nat} {x1 : Int} : (x0 = (0 : Nat) ↔ x1 = (0 : Int)) → (↑x0 : Int) = (0 : Int) → x1 = (0 : Int) := by intros; simp_all
theorem nq397 {x0 : Int} : x0 < (0 : Int) → x0 < (0 : Int) := by intros; assumption
theorem nq398 : ∀ {y0 : Int}, (0 : Int) < y0 → (↑y0.natAbs : Int) = y0 := by intros; lia
theorem nq399 {x0 x1 : Int} : (0 : Int) ≤ x0 * x1 → (↑(x0 * x1).natAbs : Int) = x0 * x1 := by intros; exact Int.natAbs_of_nonneg (by assumption)
theorem nq400 : ∀ {x0 x4 : Int} {y0 y1 : Nat}, x0.natAbs < y0 → x4.natAbs < y0 → y0 * (2 : Nat) ≤ y1 → x0.natAbs + x4.natAbs < y1 := by intros; lia
theorem nq401 {x0 x1 x2 : Nat} : x0 < (2 : Nat) ^ (22 : Nat) → x1 < (2 : Nat) ^ (22 : Nat) → x2 ≤ Max.max x0 x1 + (1 : Nat) → x2 < (2 : Nat) ^ (24 : Nat) := by intros; lia
theorem nq402 {x0 x1 : Int} : (x0 < (0 : Int) ↔ x1 < (0 : Int)) → x0 < (0 : Int) → -(↑(x0.natAbs + x1.natAbs) : Int) = x0 + x1 := by intros; grind
theorem nq403 {x0 x1 : Int} : (x0 < (0 : Int) ↔ x1 < (0 : Int)) → ¬x0 < (0 : Int) → (↑(x0.natAbs + x1.natAbs) : Int) = x0 + x1 := by intros; grind
theorem nq404 {x0 x1 : Int} : (1 : Int) < (0 : Int) → x0.natAbs < x1.natAbs := by intros; simp_all
theorem nq405 {x0 x1 : Int} : (0 : Int) < (0 : Int) → x0.natAbs < x1.natAbs := by intros; simp_all
theorem nq406 {x0 x1 : Int} : x0.natAbs < x1.natAbs → x0.natAbs ≤ x1.natAbs := by intros; exact Nat.le_of_lt (by assumption)
theorem nq407 {x0 x1 : Int} : ¬(x0 < (0 : Int) ↔ x1 < (0 : Int)) → x0.natAbs < x1.natAbs → x1 < (0 : Int) → -(↑(x1.natAbs - x0.natAbs) : Int) = x0 + x1 := by intros; grind
theorem nq408 {x0 x1 : Int} : ¬(x0 < (0 : Int) ↔ x1 < (0 : Int)) → x0.natAbs < x1.natAbs → ¬x1 < (0 : Int) → (↑(x1.natAbs - x0.natAbs) : Int) = x0 + x1 := by intros; grind
theorem nq409 {x0 x1 : Int} : (0 : Int) ≤ (-1 : Int) → x0.natAbs ≤ x1.natAbs := by intros; exact absurd (by assumption) (by decide)
theorem nq410 {x0 x1 : Int} : ¬x0.natAbs < x1.natAbs → x1.natAbs ≤ x0.natAbs := by intros; exact Nat.le_of_not_lt (by assumption)
theorem nq411 {x0 x1 : Int} : x0.natAbs ≤ x1.natAbs → x0.natAbs ≤ x1.natAbs := by intros; assumption
theorem nq412 {x0 x1 : Int} : ¬(x0 < (0 : Int) ↔ x1 < (0 : Int)) → x1.natAbs ≤ x0.natAbs → x0 < (0 : Int) → -(↑(x0.natAbs - x1.natAbs) : Int) = x0 + x1 := by intros; grind
theorem nq413 {x0 x1 : Int} : ¬(x0 < (0 : Int) ↔ x1 < (0 : Int)) → x1.natAbs ≤ x0.natAbs → ¬x0 < (0 : Int) → (↑(x0.natAbs - x1.natAbs) : Int) = x0 + x1 := by intros; grind
theorem nq414 {x0 x1 x2 : Nat} : x0 < (2 : Nat) ^ (22 : Nat) → x1 < (2 : Nat) ^ (22 : Nat) → x2 ≤ x0 + x1 → x2 < (2 : Nat) ^ (24 : Nat) := by intros; lia
theorem nq415 {x0 : Int} {x1 : Nat} : x0 ≠ (0 : Int) → (x1 = (0 : Nat) ↔ x0 = (0 : Int)) → (↑x1 : Int) = (0 : Int) → False := by intros; omega
theorem nq416 {x0 x1 : Nat} : (1 : Int) * (↑x0 : Int) + (0 : Int) * (↑x1 : Int) = (↑x0 : Int) := by simp
theorem nq417 {x0 x1 : Nat} : (0 : Int) * (↑x0 : Int) + (1 : Int) * (↑x1 : Int) = (↑x1 : Int) := by simp
theorem nq418 {x0 : Nat} : (0 : Nat) < x0 → (1 : Int) ≤ (↑x0 : Int) := by intros; exact Int.ofNat_lt.mpr (by assumption)
theorem nq419 {x0 x1 x2 : Int} {x3 x4 : Nat} : (1 : Int) * x0 ≤ (0 : Int) → (1 : Int) * (x1 * x2 - x0 * (↑x3 : Int)) = (↑x4 : Int) → (0 : Int) ≤ (1 : Int) * x1 * x2 → (1 : Int) * (x1 * x2 - x0 * (↑x3 : Int)) = (1 : Int) * x1 * x2 - (1 : Int) * x0 * (↑x3 : Int) → -((1 : Int) * x0) * (1 : Int) ≤ -((1 : Int) * x0) * (↑x3 : Int) → -((1 : Int) * x0) * (↑x3 : Int) = -((1 : Int) * x0 * (↑x3 : Int)) → x0.natAbs ≤ x4 := by intros; lia
theorem nq420 {x0 x1 x2 : Int} {x3 x4 : Nat} : (-1 : Int) * x0 ≤ (0 : Int) → (-1 : Int) * (x1 * x2 - x0 * (↑x3 : Int)) = (↑x4 : Int) → (0 : Int) ≤ (-1 : Int) * x1 * x2 → (-1 : Int) * (x1 * x2 - x0 * (↑x3 : Int)) = (-1 : Int) * x1 * x2 - (-1 : Int) * x0 * (↑x3 : Int) → -((-1 : Int) * x0) * (1 : Int) ≤ -((-1 : Int) * x0) * (↑x3 : Int) → -((-1 : Int) * x0) * (↑x3 : Int) = -((-1 : Int) * x0 * (↑x3 : Int)) → x0.natAbs ≤ x4 := by intros; lia
theorem nq421 {x0 x1 : Int} : x0 * x1 ≤ (0 : Int) → -x0 * x1 = -(x0 * x1) → (0 : Int) ≤ -x0 * x1 := by intros; simp_all
theorem nq422 : ∀ {y0 y1 y2 : Int}, (0 : Int) ≤ y0 → y1 = -y0 - y2 → (0 : Int) ≤ y2 → y1 ≤ (0 : Int) := by intros; subst_vars; lia
theorem nq423 {x0 x1 : Int} : (0 : Int) ≤ x0 * x1 → -x0 * x1 = -(x0 * x1) → -x0 * x1 ≤ (0 : Int) := by intros; simp_all
theorem nq424 : ∀ {y0 y1 y2 : Int}, y0 ≤ (0 : Int) → y1 = -y0 + y2 → (0 : Int) ≤ y2 → (0 : Int) ≤ y1 := by intros; subst_vars; lia
theorem nq425 {x0 : Int} : x0 = (1 : Int) ∨ x0 = (-1 : Int) → -x0 = (1 : Int) ∨ -x0 = (-1 : Int) := by intros; lia
theorem nq426 {x0 x1 : Int} {x2 : Nat} {x3 : Int} : (0 : Int) ≤ -x0 * (x1 - (↑x2 : Int) * x3) → x0 * (x1 - (↑x2 : Int) * x3) = -(-x0 * (x1 - (↑x2 : Int) * x3)) → x0 * (x1 - (↑x2 : Int) * x3) ≤ (0 : Int) := by intros; simp_all
theorem nq427 {x0 : Int} {x1 : Nat} {x2 : Int} : x0.natAbs ≤ x1 → (x0 - x2).natAbs ≤ x1 → x2.natAbs ≤ (2 : Nat) * x1 := fun h k => by
  have := Int.natAbs_sub_le x0 (x0 - x2)
  rw [Int.sub_sub_self] at this
  exact Nat.le_trans this (by rw [Nat.two_mul]; exact Nat.add_le_add h k)
theorem nq428 {x0 : Nat} : (0 : Int) * (↑(0 : Nat) : Int) + (1 : Int) * (↑x0 : Int) = (↑x0 : Int) := by simp
theorem nq429  : (0 : Int) * (↑(0 : Nat) : Int) + (0 : Int) * (↑(0 : Nat) : Int) = (↑(0 : Nat) : Int) := Int.add_comm _ _
theorem nq430 {x0 x1 : Nat} : Max.max (1 : Nat) x0 ≤ Max.max (1 : Nat) (Max.max x1 x0) := Nat.max_le.mpr ⟨Nat.le_max_left _ _, Nat.le_trans (Nat.le_max_right _ _) (Nat.le_max_right _ _)⟩
theorem nq431 {x0 x1 : Nat} : Max.max (1 : Nat) x0 ≤ Max.max (1 : Nat) (Max.max x0 x1) := Nat.max_le.mpr ⟨Nat.le_max_left _ _, Nat.le_trans (Nat.le_max_left _ _) (Nat.le_max_right _ _)⟩
theorem nq432 {x0 x1 x2 x3 : Nat} : (x0 = (0 : Nat) ↔ x1 = (0 : Nat)) → (↑x0 : Int) ≠ (0 : Int) → x2 ≤ Max.max (1 : Nat) (Max.max x1 x3) → x2 ≤ Max.max x1 x3 := by intros; lia
theorem nq433 {x0 x1 x2 : Nat} : x0 ≤ Max.max (1 : Nat) (Max.max x1 x2) → Max.max x1 x2 ≤ (1 : Nat) → x0 ≤ (1 : Nat) := by intros; simp_all
theorem nq434 {x0 : Nat} : x0 = (1 : Nat) → x0 < (2 : Nat) ^ (20 : Nat) := by intros; simp_all
theorem nq435 : ∀ {x0 x1 x2 y0 y1 : Nat}, x0 ≤ (2 : Nat) * Max.max (1 : Nat) (Max.max x1 x2) → Max.max (1 : Nat) (Max.max x1 x2) < y0 → y0 * (2 : Nat) ≤ y1 → x0 < y1 := by intros; lia
theorem nq436 {x0 x1 : Nat} : x0 < (2 : Nat) ^ (20 : Nat) → x1 ≤ x0 + (1 : Nat) → x1 < (2 : Nat) ^ (20 : Nat) + (1 : Nat) := by intros; lia
theorem nq437 {x0 x1 : Nat} : x0 ≤ Max.max x0 x1 := Nat.le_max_left _ _
theorem nq438 {x0 x1 : Nat} : x0 ≤ Max.max x1 x0 := Nat.le_max_right _ _
theorem nq439 : ∀ {x0 x1 x2 y0 : Nat}, x0 ≤ Max.max x1 x2 → y0 ≤ x0 → y0 ≤ Max.max (1 : Nat) (Max.max x1 x2) := by intros; lia
theorem nq440 : ∀ {x0 x1 x2 y0 : Nat}, x0 ≤ Max.max x1 x2 → y0 < x0 → y0 ≤ Max.max x1 x2 := by intros; lia
theorem nq441 {x0 : Nat} : x0 ≤ (3 : Nat) → (↑x0 : Int) < (2 : Int) ^ (62 : Nat) := by intros; lia
theorem nq442 {x0 x1 : Nat} {x2 : Int} : x0 ≤ x1 → x1 < x0 + (0 : Nat) → x2 = (0 : Int) := by intros; lia
theorem nq443 {x0 x1 : Nat} : x0 < ((↑(3 : Nat) : Int) - (↑x1 : Int)).toNat → x1 + x0 < (3 : Nat) := by intros; omega
theorem nq444 {x0 x1 : Nat} : (0 : Int) ≤ (↑x0 : Int) + (↑x1 : Int) := Int.natCast_nonneg _
theorem nq445 {x0 x1 : Nat} : x0 < ((↑(3 : Nat) : Int) - (↑x1 : Int)).toNat → (↑x1 : Int) + (↑x0 : Int) < (↑(3 : Nat) : Int) := by intros; omega
theorem nq446 {x0 x1 : Nat} : ((↑x0 : Int) + (↑x1 : Int)).toNat = x0 + x1 := Int.toNat_natCast _
theorem nq447 {x0 x1 x2 : Nat} : x0 < x1 + (x2 + (1 : Nat)) → x0 ≥ x1 + x2 → x0 = x1 + x2 := by intros; lia
theorem nq448 {x0 x1 : Nat} : x0 < (3 : Nat) → x0 < x1 + ((↑(3 : Nat) : Int) - (↑x1 : Int)).toNat := by intros; omega
theorem nqA {a b c : Nat} : a < c → b < c → a + b < c * 2 := by intros; omega
theorem nq449 {x0 : Int} {x1 : Nat} {x2 : Int} : x0.natAbs < x1 → x2.natAbs < x1 → (x0 - x2).natAbs < x1 * (2 : Nat) := fun h k => Nat.lt_of_le_of_lt (Int.natAbs_sub_le _ _) (nqA h k)
theorem nq450 {x0 : Int} {x1 : Nat} {x2 : Int} : x0.natAbs < x1 → x2.natAbs < x1 → (x0 + x2).natAbs < x1 * (2 : Nat) := fun h k => Nat.lt_of_le_of_lt (Int.natAbs_add_le _ _) (nqA h k)
theorem nq451 {x0 : Nat} : (0 : Nat) + (4 : Nat) ≤ x0 + (6 : Nat) := Nat.le_add_left _ _
theorem nq452 {x0 x1 : Nat} : x0 < (2 : Nat) ^ (20 : Nat) → x1 ≤ x0 + x0 + (1 : Nat) → x1 < (2 : Nat) ^ (22 : Nat) := by intros; lia
theorem nq453 {x0 : Nat} : (0 : Nat) + (6 : Nat) ≤ x0 + (6 : Nat) := Nat.le_add_left _ _
theorem nq454 {x0 x1 : Nat} : x0 ≤ x1 → x0 ≤ x1 + x1 + (1 : Nat) := by intros; lia
theorem nq455 {x0 : Nat} : x0 ≤ (8 : Nat) * x0 + (7 : Nat) := by lia
theorem nq456 {x0 : Nat} : x0 + x0 + (1 : Nat) ≤ (8 : Nat) * x0 + (7 : Nat) := by lia
theorem nq457 {x0 : Nat} : x0 + x0 + (1 : Nat) + (x0 + x0 + (1 : Nat)) + (1 : Nat) ≤ (8 : Nat) * x0 + (7 : Nat) := by lia
theorem nq458 {x0 : Nat} : x0 + x0 + (1 : Nat) + (x0 + x0 + (1 : Nat)) + (1 : Nat) + (x0 + x0 + (1 : Nat) + (x0 + x0 + (1 : Nat)) + (1 : Nat)) + (1 : Nat) ≤ (8 : Nat) * x0 + (7 : Nat) := by lia
theorem nq459 {x0 x1 : Nat} : x0 ≤ x1 → x1 < (3 : Nat) → x0 < (3 : Nat) := by intros; exact Nat.lt_of_le_of_lt (by assumption) (by assumption)
theorem nq460 {x0 x1 : Nat} : x0 < Int.toNat (3 : Int) → x1 ≤ x0 → x1 < (2 : Nat) ^ (62 : Nat) := by intros; exact Nat.lt_of_le_of_lt (by assumption) (Nat.lt_of_lt_of_le (by assumption) (by decide))
theorem nq461 {x0 : Nat} : (2 : Nat) ≤ x0 + (7 : Nat) := Nat.le_add_left _ _
theorem nq462 {x0 x1 : Nat} : x0 < Int.toNat (3 : Int) → x1 ≤ x0 → x1 ≤ (3 : Nat) := by intros; lia
theorem nq463 {x0 x1 : Nat} : x0 < Int.toNat (3 : Int) → x1 ≤ x0 → x1 < (3 : Nat) := by intros; exact Nat.lt_of_le_of_lt (by assumption) (by assumption)
theorem nq464 {x0 x1 : Nat} : x0 < Int.toNat (3 : Int) → x1 ≤ x0 → (↑x1 : Int) < (2 : Int) ^ (63 : Nat) := by intros; lia
theorem nq465 {x0 : Nat} : x0 < (3 : Nat) → (↑x0 : Int) < (2 : Int) ^ (63 : Nat) := by intros; lia
theorem nq466 {x0 x1 : Nat} : x0 < Int.toNat (3 : Int) → x1 ≤ x0 → (↑x1 : Int) + (1 : Int) < (2 : Int) ^ (62 : Nat) := by intros; lia
theorem nq467 {x0 x1 : Nat} : ¬(x0 < x1 ∧ x1 < x0 + (1 : Nat) + (0 : Nat)) := by lia
theorem nq468 {x0 x1 : Nat} : x0 < ((↑(3 : Nat) : Int) - ((↑x1 : Int) + (1 : Int))).toNat → x1 + (1 : Nat) + x0 < (3 : Nat) := by intros; omega
theorem nq469 {x0 x1 : Nat} : ¬(x0 < x0 + (1 : Nat) + x1 ∧ x0 + (1 : Nat) + x1 < x0 + (1 : Nat) + x1) := by simp
theorem nq470 {x0 x1 : Nat} : ¬(x0 < x0 ∧ x0 < x0 + (1 : Nat) + x1) := by simp
theorem nq471 {x0 : Nat} : (0 : Nat) + (7 : Nat) ≤ x0 + (7 : Nat) := Nat.le_add_left _ _
theorem nq472 {x0 x1 : Nat} : x0 < ((↑(3 : Nat) : Int) - ((↑x1 : Int) + (1 : Int))).toNat → (↑x1 : Int) + (1 : Int) + (↑x0 : Int) < (2 : Int) ^ (63 : Nat) := by intros; omega
theorem nq473 {x0 x1 : Nat} : x0 < x0 + (1 : Nat) + x1 ∧ x0 + (1 : Nat) + x1 < x0 + (1 : Nat) + (x1 + (1 : Nat)) := by lia
theorem nq474 {x0 x1 x2 : Nat} : x0 < x1 ∧ x1 < x0 + (1 : Nat) + x2 → x0 < x1 ∧ x1 < x0 + (1 : Nat) + (x2 + (1 : Nat)) := by intros; lia
theorem nq475 {x0 x1 x2 : Nat} : ¬x0 = x1 + (1 : Nat) + x2 → ¬(x1 < x0 ∧ x0 < x1 + (1 : Nat) + x2) → ¬(x1 < x0 ∧ x0 < x1 + (1 : Nat) + (x2 + (1 : Nat))) := by intros; lia
theorem nq476 {x0 : Nat} : ((↑(3 : Nat) : Int) - ((↑x0 : Int) + (1 : Int))).toNat = (2 : Nat) - x0 := by lia
theorem nq477 {x0 x1 : Nat} : x0 < Int.toNat (3 : Int) → x1 ≤ x0 → x1 < (2 : Nat) ^ (24 : Nat) := by intros; exact Nat.lt_of_le_of_lt (by assumption) (Nat.lt_of_lt_of_le (by assumption) (by decide))
theorem nq478 {x0 x1 : Nat} : x0 < (3 : Nat) → x1 < x0 → x1 < x0 ∧ x0 < x1 + (1 : Nat) + ((2 : Nat) - x1) := by intros; lia
theorem nq479 {x0 x1 : Nat} : ¬x0 < x1 → ¬(x0 < x1 ∧ x1 < x0 + (1 : Nat) + ((2 : Nat) - x0)) := by intros; omega
theorem nq480 {x0 : Nat} : ¬(x0 < x0 ∧ x0 < x0 + (1 : Nat) + ((2 : Nat) - x0)) := by simp
theorem nq481  : (↑(3 : Nat) : Int) = (0 : Int) → False := by intros; omega
theorem nq482 {x0 : Nat} : (8 : Nat) ≤ x0 + (8 : Nat) := Nat.le_add_left _ _
theorem nq483 {x0 : Nat} : x0 ≤ (3 : Nat) → x0 < (2 : Nat) ^ (62 : Nat) := by intros; exact Nat.lt_of_le_of_lt (by assumption) (by decide)
theorem nq484 {x0 x1 : Nat} : x0 ≤ (3 : Nat) → (↑x1 : Int) ≤ (↑x0 : Int) → x1 < (2 : Nat) ^ (62 : Nat) := by intros; lia
theorem nq485 {x0 : Nat} : (↑x0 : Int) ≠ (0 : Int) → (0 : Int) ≤ (↑x0 : Int) - (1 : Int) := by intros; lia
theorem nq486 {x0 x1 : Nat} : x0 ≤ (3 : Nat) → (↑x1 : Int) ≤ (↑x0 : Int) → (↑x1 : Int) - (1 : Int) < (↑(3 : Nat) : Int) := by intros; lia
theorem nq487 {x0 : Nat} : (↑x0 : Int) < (↑(3 : Nat) : Int) → x0 = (3 : Nat) → False := by intros; omega
theorem nq488 {x0 : Nat} : (0 : Nat) + (2 : Nat) ≤ x0 + (8 : Nat) := Nat.le_add_left _ _
theorem nq489 {x0 : Nat} : (↑(3 : Nat) : Int) ≤ (↑x0 : Int) → x0 < (3 : Nat) → False := by intros; omega
theorem nq490 {x0 : Nat} : (↑(3 : Nat) : Int) ≤ (↑x0 : Int) → x0 < (3 : Nat) → False := by intros; omega
theorem nq491 {x0 x1 x2 x3 : Nat} : x0 + x1 * x2 + x3 = x3 + x1 * x2 + x0 := by lia
theorem nq492 : ∀ {x6 y0 y1 y2 y3 : Nat}, y0 + y1 = y2 + y3 → x6 + y0 + y1 = x6 + y2 + y3 := by intros; lia
theorem nq493 {x0 x1 : Nat} : x0 < (2 : Nat) ^ (23 : Nat) → x1 < (2 : Nat) ^ (23 : Nat) → (↑(x0 + x1) : Int) ≤ (2 : Int) ^ (24 : Nat) := by intros; lia
theorem nq494 {x0 x1 x2 : Nat} : x0 < (2 : Nat) ^ (23 : Nat) → x1 < (2 : Nat) ^ (23 : Nat) → x2 = x0 + x1 → x2 < (2 : Nat) ^ (62 : Nat) := by intros; subst_vars; lia
theorem nq495 {x0 x1 x2 x3 : Nat} : x0 < (2 : Nat) ^ (23 : Nat) → x1 < (2 : Nat) ^ (23 : Nat) → x2 < x0 → x3 < x1 → (↑(x2 + x3) : Int) < (2 : Int) ^ (63 : Nat) := by intros; lia
theorem nq496 {x0 : Nat} : (2 : Nat) ≤ x0 → x0 = x0 - (1 : Nat) + (1 : Nat) := by intros; lia
theorem nq497 : ∀ {x0 x1 x2 x5 y0 y1 y2 : Nat}, x0 < x1 → x0 + (x2 + y0) = x5 → y0 ≤ y1 → x2 < x1 → y2 = y1 + (x1 - (1 : Nat)) + (x1 - (1 : Nat)) + (1 : Nat) → x5 < y2 := by intros; subst_vars; lia
theorem nq498 {x0 x1 x2 x3 x4 : Nat} : x0 < x1 → x2 < x3 → x4 = x1 + x3 → x0 + x2 < x4 := by intros; subst_vars; lia
theorem nq499 : ∀ {x0 x5 x8 y0 y1 y2 y3 y4 y5 y6 : Nat}, x0 + y0 = x5 + y1 → x8 + y2 = x0 + y3 → y4 + y3 = y0 + (y2 + y5) → y6 = y5 → x8 + y4 = x5 + (y1 + y6) := by intros; subst_vars; lia
theorem nq501 {x0 x1 x2 : Nat} : x0 < (2 : Nat) ^ (23 : Nat) → x1 < (2 : Nat) ^ (23 : Nat) → x2 < x0 → (↑(x2 + x1) : Int) < (2 : Int) ^ (63 : Nat) := by intros; lia
theorem nq502 {x0 x1 x2 x3 : Nat} : x0 < x1 → x2 = x1 + x3 → x0 + x3 < x2 := by intros; simp_all
theorem nq503 {x0 x1 x2 x3 x4 x5 x6 x7 x8 : Nat} : x0 + x1 ^ (x2 + x3) * x4 = x5 + x1 ^ x2 * (x6 * x7) → x8 + x1 ^ (x2 + x3) * (0 : Nat) = x0 + x1 ^ (x2 + x3) * x4 → x8 = x5 + x1 ^ x2 * (x6 * x7) := by intros; subst_vars; assumption
theorem nq504 {x0 x1 x2 : Nat} : x0 + (1 : Nat) + x1 ≤ x2 → x2 ≠ x0 + x1 := by intros; lia
theorem nq505 {x0 x1 x2 : Nat} : x0 < (2 : Nat) ^ (23 : Nat) → x1 < (2 : Nat) ^ (23 : Nat) → x2 = x0 + x1 → x2 ≤ (2 : Nat) ^ (24 : Nat) := by intros; subst_vars; lia
theorem nq506 {x0 x1 : Nat} : (0 : Int) < (↑(x0 % x1) : Int) → (0 : Nat) < x0 % x1 := by intros; exact Int.ofNat_lt.mp (by assumption)
theorem nq507 {x0 x1 x2 : Nat} : x0 < x1 → x2 % x0 < x0 → x2 % x0 < x1 := by intros; exact Nat.lt_trans (by assumption) (by assumption)
theorem nq508 {x0 x1 : Nat} : (↑(x0 % x1) : Int) ≤ (0 : Int) → x0 % x1 = (0 : Nat) := by intros; lia
theorem nq509 {x0 x1 : Nat} : x0 < (0 : Nat) → (0 : Nat) < x1 := by intros; simp_all
theorem nq510 : ∀ {x2 y0 : Nat}, (0 : Nat) < y0 → (0 : Nat) < y0 + x2 := by intros; lia
theorem nq511 : ∀ {x0 x3 y0 : Nat}, x0 < Min.min y0 (x3 - (1 : Nat)) → x0 + (1 : Nat) ≤ y0 := by intros; grind
theorem nq512 {x0 x1 x2 x3 : Nat} : (x0 + (1 : Nat)) * (x1 * x2) ≤ (x0 + (1 : Nat)) * (x1 * x2) + (x0 + (1 : Nat)) * x3 := Nat.le_add_right _ _
theorem nq513 : ∀ {x0 x1 x4 y0 y1 y2 : Nat}, x0 < x1 → y0 ≤ y1 + x0 → y1 + (1 : Nat) * x1 ≤ y0 → y2 ≤ x4 := by intros; lia
theorem nq514 {x0 : Nat} : x0 < x0 + (1 : Nat) := Nat.lt_succ_self _
theorem nq515 : ∀ {x0 x3 y0 : Nat}, x0 < Min.min y0 (x3 - (1 : Nat)) → x0 + (1 : Nat) ≤ x3 - (1 : Nat) := by intros; grind
theorem nq516 : ∀ {x0 x2 x3 y0 y1 : Nat}, y0 ≤ x2 → x2 < y0 → x0 = Min.min y1 (x3 - (1 : Nat)) := by intros; lia
theorem nq517 : ∀ {x0 x1 y0 : Nat}, x0 ≤ x1 - (1 : Nat) → x0 ≤ y0 → x0 ≥ Min.min y0 (x1 - (1 : Nat)) → x0 = Min.min y0 (x1 - (1 : Nat)) := by intros; lia
theorem nq518 {x0 x1 : Nat} : x0 < x1 → x1 ≤ (65536 : Nat) → x0 < (18446744073709551616 : Nat) := by intros; exact Nat.lt_of_lt_of_le (by assumption) (Nat.le_trans (by assumption) (by decide))
theorem nq519 {x0 x1 x2 : Nat} : Min.min x0 (x1 - (1 : Nat)) < x2 → x2 ≤ x0 → ¬x2 ≤ x1 - (1 : Nat) := by intros; lia
theorem nq520 {x0 x1 x2 : Nat} : x0 < x1 → (↑x1 : Int) - (1 : Int) < (↑x2 : Int) → (↑(Min.min x2 (x1 - (1 : Nat))) : Int) = (↑x1 : Int) - (1 : Int) := by intros; grind
theorem nq521 {x0 x1 : Nat} : ¬(↑x0 : Int) - (1 : Int) < (↑x1 : Int) → (↑(Min.min x1 (x0 - (1 : Nat))) : Int) = (↑x1 : Int) := by intros; grind
theorem nq522 : ∀ {x0 x1 x3 y0 y1 y2 : Nat}, x0 < x1 → y0 ≤ y1 → y1 + x1 = y2 → y0 + x0 = x3 → x3 < y2 := by intros; subst_vars; lia
theorem nq523 {x0 x1 x2 : Nat} : x0 * x1 ≤ x2 → x0 * x1 ≤ x2 := by intros; assumption
theorem nq524 : ∀ {x0 x1 x3 y0 y1 y2 y3 : Nat}, x0 < x1 → y0 ≤ (65536 : Nat) * (65536 : Nat) → y1 ≤ y2 → y2 + x1 = y0 → y1 + x0 = x3 → x3 - y3 < (2 : Nat) ^ (64 : Nat) := by intros; subst_vars; omega
theorem nq525 {x0 x1 x2 x3 : Nat} : (↑x0 : Int) ≤ (↑(x1 - x2 * x3) : Int) → x0 ≤ x1 - x2 * x3 := by intros; exact Int.ofNat_le.mp (by assumption)
theorem nq526 : ∀ {x0 x1 y0 y1 y2 y3 y4 : Nat}, x0 < x1 → y0 + x1 = y1 → y2 ≤ y0 → y1 ≤ y3 - y4 → y4 + y2 ≤ y3 + x0 := by intros; subst_vars; lia
theorem nq527 : ∀ {x3 y0 : Nat}, (↑(y0 + x3) : Int) < (↑(0 : Nat) : Int) → False := by intros; lia
theorem nq528 {x0 : Nat} : (0 : Nat) < x0 → (x0 - (1 : Nat)).succ = x0 := by intros; lia
theorem nq529 {x0 x1 : Nat} : x0 ≤ x1 - (1 : Nat) → x0 - (1 : Nat) ≤ x1 - (1 : Nat) := by intros; omega
theorem nq530 : ∀ {x1 x2 y0 y1 : Nat}, y0 ≤ x2 → y1 + x1 = y0 → y1 ≤ x2 := by intros; subst_vars; lia
theorem nq531 : ∀ {x1 x2 y0 y1 : Nat}, y0 ≤ x2 → y1 + x1 = y0 → (↑(x2 - y1) : Int) = (↑(x2 - y0 + x1) : Int) := by intros; lia
theorem nq532 {x0 : Nat} : (0 : Nat) < x0 → (↑(x0 - (1 : Nat)) : Int) = (↑x0 : Int) - (1 : Int) := by intros; lia
theorem nq533 {x0 x1 x2 x3 x4 x5 : Nat} : (↑(x0 * x1) : Int) ≤ (↑((x2 - x0 * x3) * x4 + x5) : Int) → x0 * x1 ≤ (x2 - x0 * x3) * x4 + x5 := by intros; exact Int.ofNat_le.mp (by assumption)
theorem nq534 : ∀ {x5 y0 y1 y2 : Nat}, y0 ≤ y1 → y2 ≤ y1 - y0 + x5 → y0 + y2 ≤ y1 + x5 := by intros; lia
theorem nq535 {x0 : Nat} : (2 : Nat) ≤ x0 → (x0 - (1 : Nat)).succ = x0 := by intros; lia
theorem nq536 : ∀ {x0 x1 x4 y0 y1 y2 : Nat}, x0 < x1 → y0 + x0 = x4 → y0 ≤ y1 → y1 + (x1 - (1 : Nat)) = y2 → x4 < y2 + x1 := by intros; subst_vars; lia
theorem nq537 : ∀ {x1 y0 : Nat}, y0 ≤ x1 - (1 : Nat) → y0 ≥ x1 - (1 : Nat) → y0 = x1 - (1 : Nat) := by intros; lia
theorem nq538 : ∀ {x0 x1 x4 y0 y1 y2 y3 y4 : Nat}, x0 < x1 → y0 + x0 = x4 → y1 + y2 = x4 → y0 ≤ y3 → y3 + (x1 - (1 : Nat)) = y1 → y2 ≠ (0 : Nat) → y4 + (1 : Nat) ≤ x1 - (1 : Nat) := by intros; subst_vars; lia
theorem nq539 : ∀ {x0 x5 x8 y0 y1 y2 y3 y4 y5 y6 : Nat}, x0 + y0 = x5 + y1 → x8 + y2 = x0 + y3 → y3 + (y4 + y1) = y2 + y5 → y6 = y4 → x8 + (y0 + y6) = x5 + y5 := by intros; subst_vars; lia
theorem nq540 : ∀ {x0 x5 x6 x7 y0 : Nat}, (↑x0 : Int) - (↑y0 : Int) < (0 : Int) → (0 : Int) ≤ (↑x0 : Int) - (↑y0 : Int) → (↑(x5 + x6) : Int) < (↑x7 : Int) := by intros; grind
theorem nq541 : ∀ {x0 y0 : Nat}, (↑x0 : Int) - (↑y0 : Int) < (0 : Int) → (0 : Int) ≤ (↑x0 : Int) - (↑y0 : Int) → False := by intros; lia
theorem nq544 : ∀ {x1 x2 y0 : Nat}, y0 < x1 → (↑x2 : Int) - (↑y0 : Int) + (↑x1 : Int) = (↑(x2 + x1 - y0) : Int) := by intros; lia
theorem nq545 : ∀ {x0 y0 : Nat}, (↑x0 : Int) - (↑y0 : Int) < (0 : Int) → y0 ≠ (0 : Nat) := by intros; lia
theorem nq546 : ∀ {x0 x1 x2 y0 : Nat}, x0 < x1 → (↑x2 : Int) - (↑y0 : Int) < (0 : Int) → x2 + x1 - y0 < x1 := by intros; omega
theorem nq547 : ∀ {x0 x1 x2 y0 y1 : Nat}, x0 < x1 → (↑x2 : Int) - (↑y0 : Int) < (0 : Int) → (y0 ≠ (0 : Nat) → y1 + (1 : Nat) ≤ x1 - (1 : Nat)) → y1 + (1 : Nat) < x1 := by intros; lia
theorem nq548 : ∀ {x0 x1 x2 y0 y1 : Nat}, y0 + y1 = x1 → y1 < x0 → x2 + x0 - y1 + x1 = x2 + (y0 + x0 * (1 : Nat)) := by intros; subst_vars; lia
theorem nq549 : ∀ {x0 y0 : Nat}, (0 : Int) ≤ (↑x0 : Int) - (↑y0 : Int) → (↑x0 : Int) - (↑y0 : Int) = (↑(x0 - y0) : Int) := by intros; lia
theorem nq550 : ∀ {x0 x1 y0 : Nat}, x0 < x1 → x0 - y0 < x1 := by intros; omega
theorem nq551 : ∀ {x0 x1 y0 : Nat}, x0 < x1 → y0 ≤ x1 - (1 : Nat) → y0 < x1 := by intros; omega
theorem nq552 : ∀ {x0 x1 y0 y1 : Nat}, (0 : Int) ≤ (↑x0 : Int) - (↑y0 : Int) → y1 + y0 = x1 → x0 - y0 + x1 = x0 + y1 := by intros; subst_vars; lia
theorem nq553 {x0 x1 : Nat} : (↑x0 : Int) - (↑x1 : Int) < (0 : Int) → (0 : Int) ≤ (↑x0 : Int) - (↑x1 : Int) → False := by intros; omega
theorem nq555 {x0 x1 x2 : Nat} : x0 < x1 → (↑x2 : Int) - (↑x0 : Int) + (↑x1 : Int) = (↑(x2 + x1 - x0) : Int) := by intros; lia
theorem nq556 {x0 x1 x2 x3 : Nat} : x0 < x1 → (↑x2 : Int) - (↑x3 : Int) < (0 : Int) → x2 + x1 - x3 < x1 := by intros; omega
theorem nq557 {x0 x1 x2 : Nat} : x0 < x1 → x2 + x1 - x0 + x0 = x2 + x1 := by intros; lia
theorem nq558 : ∀ {x0 x5 x8 y0 y1 y2 y3 y4 : Nat}, x0 + y0 = x5 + y1 → x8 + y2 = x0 + y3 → y3 + y1 = y2 + y4 → x8 + y0 = x5 + y4 * (1 : Nat) := by intros; grind
theorem nq559 {x0 x1 : Nat} : (0 : Int) ≤ (↑x0 : Int) - (↑x1 : Int) → (↑x0 : Int) - (↑x1 : Int) = (↑(x0 - x1) : Int) := by intros; lia
theorem nq560 {x0 x1 : Nat} : (0 : Int) ≤ (↑x0 : Int) - (↑x1 : Int) → x0 - x1 + x1 = x0 := by intros; simp_all
theorem nq561 : ∀ {x0 x5 x8 y0 y1 y2 y3 y4 : Nat}, x0 + y0 = x5 + y1 → x8 + y2 = x0 + y3 → y3 + y1 = y2 → x8 + y0 = x5 + y4 * (0 : Nat) := by intros; subst_vars; lia
theorem nq562 : ∀ {x0 x5 x7 y0 y1 y2 y3 y4 y5 y6 : Nat}, x0 + y0 = x5 + y1 → x7 + y2 = x0 + y3 → y3 + y4 = y0 + (y2 + y5) → y6 = y5 → x7 + y4 = x5 + (y1 + y6) := by intros; subst_vars; lia
theorem nq563 {x0 x1 x2 x3 : Nat} : x0 ≤ (1 : Nat) → x1 < x2 → x3 < x2 → x0 + (x3 + x1) < (2 : Nat) * x2 := by intros; lia
theorem nq564 {x0 x1 x2 x3 : Nat} : (x0 + (x1 + x2)) / x3 < (2 : Nat) → (x0 + (x1 + x2)) / x3 ≤ (1 : Nat) := by intros; exact Nat.le_of_lt_succ (by assumption)
theorem nq565 : ∀ {x1 x2 x3 y0 y1 : Nat}, y0 + y1 = x1 + (x2 + x3) → y1 + y0 = x1 + (x2 + x3) := by intros; grind
theorem nq566 : ∀ {x0 x5 x7 y0 y1 y2 y3 y4 : Nat}, x0 + y0 = x5 + y1 → x7 + y2 = x0 + y3 → y4 + y3 = y2 + y0 → x7 + y4 = x5 + y1 := by intros; lia
theorem nq567 : ∀ {x0 y0 y1 : Nat}, x0 + y0 < y1 → y1 * (1 : Nat) ≤ y0 → False := by intros; lia
theorem nq568 {x0 x1 : Nat} : x0 ≤ x1 → (2 : Nat) ≤ x0 → (0 : Nat) < x1 := by intros; lia
theorem nq569 {x0 x1 x2 x3 : Nat} : x0 < x1 * (x2 * x3) → x1 * (x2 * x3) = x2 * (x1 * x3) → x0 < x2 * (x1 * x3) := by intros; simp_all
theorem nq570 : ∀ {x2 x3 y0 : Nat}, Min.min y0 (x2 - (1 : Nat)) = x3 → x3 ≤ y0 := by intros; lia
theorem nq571 : ∀ {x0 y0 y1 y2 y3 : Nat}, x0 < y0 → y1 ≤ x0 → y0 ≤ y2 → y2 = y3 → y1 < y3 := by intros; subst_vars; lia
theorem nq572 : ∀ {x0 x1 x2 y0 y1 y2 : Nat}, x0 ≤ x1 → x2 < x0 → y0 < y1 → y0 = y2 + x1 → y1 = y2 + (x2 + (1 : Nat)) → False := by intros; subst_vars; lia
theorem nq573 {x0 x1 : Nat} : x0 + (1 : Nat) ≥ x1 → x1 ≤ x0 + (1 : Nat) := by intros; assumption
theorem nq574 {x0 x1 : Nat} : x0 + (3 : Nat) ≤ x1 → (Max.max (0 : Int) (Min.min (if (↑x0 : Int) < (0 : Int) then (↑x0 : Int) + (↑x1 : Int) else (↑x0 : Int)) (↑x1 : Int))).toNat = x0 := by intros; grind
theorem nq575 {x0 x1 : Nat} : x0 + (3 : Nat) ≤ x1 → (Max.max (0 : Int) (Min.min (if (↑(x0 + (3 : Nat)) : Int) < (0 : Int) then (↑(x0 + (3 : Nat)) : Int) + (↑x1 : Int) else (↑(x0 + (3 : Nat)) : Int)) (↑x1 : Int))).toNat = x0 + (3 : Nat) := fun h => nq290 h
theorem nq576 {x0 : Nat} : x0 + (3 : Nat) - x0 = (3 : Nat) := by simp
theorem nq577 {x0 x1 : Nat} : x0 + (3 : Nat) ≤ x1 → x0 ≤ x1 := by intros; lia
theorem nq578 {x0 : Nat} : x0 - (2 : Nat) ≤ x0 := Nat.sub_le _ _
theorem nq579 {x0 : Nat} : (2 : Nat) ≤ x0 → x0 - (2 : Nat) < x0 := by intros; omega
theorem nq580 {x0 : Nat} : (2 : Nat) ≤ x0 → x0 - (2 : Nat) + (1 : Nat) = x0 - (1 : Nat) := by intros; grind
theorem nq581 {x0 : Nat} : (2 : Nat) ≤ x0 → x0 - (1 : Nat) < x0 := by intros; omega
theorem nq582 {x0 x1 : Nat} : x0 ≤ x1 → x0 + (x1 - x0) = x1 := by intros; simp_all
theorem nq583 {x0 x1 : Nat} : x0 < x1 → (0 : Int) ≤ (↑x1 : Int) - (↑x0 : Int) := by intros; lia
theorem nq585 {x0 x1 : Nat} : x0 < x1 → (-1 : Int) ≤ (↑x1 : Int) - (↑x0 : Int) - (1 : Int) := by intros; lia
theorem nq587 {x0 x1 x2 : Nat} : x0 - x1 = x2 → ((↑x0 : Int) - (↑x1 : Int)).toNat = x2 := by intros; simp_all
theorem nq588 {x0 x1 x2 x3 : Nat} : x0 - x1 = x2 → x3 < ((↑x0 : Int) - (↑x1 : Int) - (1 : Int) + (1 : Int)).toNat → x3 < x2 := by intros; simp_all
theorem nq589 {x0 x1 x2 x3 : Nat} : x0 - x1 = x2 → x3 < ((↑x0 : Int) - (↑x1 : Int) - (1 : Int) + (1 : Int)).toNat → (↑x0 : Int) - (↑x1 : Int) - (1 : Int) - (↑x3 : Int) = (↑(x2 - (1 : Nat) - x3) : Int) := by intros; subst_vars; lia
theorem nq590 {x0 : Nat} : (2 : Nat) ≤ x0 → (0 : Int) ≤ (↑x0 : Int) - (1 : Int) := by intros; lia
theorem nq591 {x0 : Nat} : (↑x0 : Int) - (1 : Int) < (↑x0 : Int) := by lia
theorem nq592 {x0 : Nat} : (2 : Nat) ≤ x0 → (0 : Int) ≤ (↑x0 : Int) - (2 : Int) := by intros; lia
theorem nq593 {x0 : Nat} : (↑x0 : Int) - (2 : Int) < (↑x0 : Int) := by lia
theorem nq594 {x0 x1 x2 x3 x4 : Nat} : x0 - x1 = x2 → x3 < ((↑x0 : Int) - (↑x1 : Int) - (1 : Int) + (1 : Int)).toNat → x2 - (1 : Nat) - x3 = x4 → x2 - x3 = x4 + (1 : Nat) := by intros; subst_vars; lia
theorem nq595 {x0 x1 x2 x3 x4 x5 : Nat} : x0 < x1 → x1 - x0 = x2 → x3 = x1 → x2 - (1 : Nat) - x4 = x5 → x5 + x0 + (1 : Nat) ≤ x3 := by intros; subst_vars; omega
theorem nq596 {x0 x1 : Nat} : (2 : Nat) ≤ x0 → (↑(x1 + x0) : Int) - (2 : Int) = (↑(x1 + x0 - (2 : Nat)) : Int) := by intros; lia
theorem nq597 {x0 x1 : Nat} : (2 : Nat) ≤ x0 → (↑(x1 + x0) : Int) + (1 : Int) = (↑(x1 + x0 - (2 : Nat) + (3 : Nat)) : Int) := by intros; lia
theorem nq598 {x0 : Nat} : ((↑x0 : Int) - (2 : Int)).toNat = x0 - (2 : Nat) := by lia
theorem nq599 {x0 x1 : Nat} : (2 : Nat) ≤ x0 → x1 + x0 - (2 : Nat) + (3 : Nat) = x1 + x0 + (1 : Nat) := by intros; lia
theorem nq600 {x0 x1 : Nat} : (2 : Nat) ≤ x0 → x0 - (2 : Nat) + x1 = x1 + x0 - (2 : Nat) := fun h => by rw [Nat.add_comm, ← Nat.add_sub_assoc h]
theorem nq601 : ∀ {x0 x2 y0 : Nat}, (1 : Nat) * x0 ≤ y0 → x0 ≤ y0 + x2 := by intros; lia
theorem nq602 : ∀ {x0 x6 y0 : Nat}, (2 : Nat) ≤ x0 → Min.min y0 (x0 - (1 : Nat)) = x6 → x6 < x0 := by intros; subst_vars; omega
theorem nq603 {x0 x1 x2 x3 : Nat} : x0 < (0 : Nat) * x1 → (0 : Nat) < x2 * x1 ^ x3 := by intros; simp_all
theorem nq604 {x0 x1 x2 : Nat} : x0 - (1 : Nat) - x1 = x2 → x0 - (x1 + (1 : Nat)) = x2 := by intros; subst_vars; lia
theorem nq605 : ∀ {x0 x6 x7 y0 : Nat}, (2 : Nat) ≤ x0 → Min.min y0 (x0 - (1 : Nat)) = x6 → x7 ≤ x6 ∧ x6 ≤ x7 + (1 : Nat) → x7 < x0 := by intros; grind
theorem nq606 : ∀ {x0 x5 y0 y1 : Nat}, x0 < y0 + y1 → x5 + y0 = x0 → x5 < y1 := by intros; subst_vars; lia
theorem nq607 {x0 x1 x2 x3 x4 x5 : Nat} : x0 < x1 → x1 - x0 = x2 → x3 = x1 → x2 - (1 : Nat) - x4 = x5 → x5 + x0 < x3 := by intros; subst_vars; omega
theorem nq608 {x0 x1 x2 x3 x4 x5 x6 : Nat} : x0 < x1 → x1 - x0 = x2 → x3 = x1 → x2 - (1 : Nat) - x4 = x5 → x6 = x3 → x5 + x0 + (1 : Nat) ≤ x6 := by intros; subst_vars; omega
theorem nq609 {x0 x1 x2 : Nat} : x0 < (2 : Nat) ^ (24 : Nat) → x1 = x0 → x2 = x1 → x2 < (2 : Nat) ^ (24 : Nat) := by intros; subst_vars; assumption
theorem nq610 {x0 x1 x2 x3 x4 x5 x6 : Nat} : x0 < x1 → x1 - x0 = x2 → x3 = x1 → x2 - (1 : Nat) - x4 = x5 → x6 = x3 → x5 + x0 < x6 := by intros; subst_vars; omega
theorem nq611 {x0 x1 x2 x3 x4 x5 x6 x7 : Nat} : x0 < x1 → x1 - x0 = x2 → x3 = x1 → x2 - (1 : Nat) - x4 = x5 → x6 = x3 → x7 = x6 → x5 + x0 + (1 : Nat) ≤ x7 := by intros; subst_vars; omega
theorem nq612 {x0 : Nat} : x0 ≤ x0 + (1 : Nat) := Nat.le_add_right _ _
theorem nq613 : ∀ {x0 x4 x5 x7 y0 y1 : Nat}, y0 ≤ x4 → x5 < y1 → x5 + y0 = x4 + y1 * (1 : Nat) → x7 = x0 + (1 : Nat) := by intros; lia
theorem nq614 : ∀ {x4 x5 x7 y0 y1 y2 : Nat}, y0 ≤ x4 → x5 < y1 → x7 + (y0 + y2) = x4 + y1 * (1 : Nat) → x5 + y1 * (0 : Nat) = x7 + y2 → (0 : Nat) = (1 : Nat) := by intros; subst_vars; lia
theorem nq615 {x0 : Nat} : x0 < (2 : Nat) → x0 > (0 : Nat) → x0 = (1 : Nat) := by intros; lia
theorem nq616 : ∀ {x0 x4 x5 x6 y0 y1 y2 y3 : Nat}, x0 < y0 → x4 + y1 = x6 + y2 → x6 + (y3 + y2) = x0 + y0 * (1 : Nat) → y0 * (2 : Nat) ≤ y1 → x5 = (1 : Nat) := by intros; lia
theorem nq617 {x0 x1 : Nat} : x0 = x1 + (1 : Nat) → (↑x0 : Int) - (1 : Int) = (↑x1 : Int) := by intros; simp_all
theorem nq618 {x0 x1 x2 x3 : Nat} : x0 = x1 → x2 = x0 → x3 = x2 → x3 = x1 := by intros; simp_all
theorem nq619 : ∀ {x0 x5 x7 y0 y1 y2 : Nat}, x0 + (y0 + y1) = x5 + y2 * (1 : Nat) → x7 + y2 * (1 : Nat) = x0 + y1 → x7 + y0 = x5 := by intros; lia
theorem nq620 {x0 : Nat} : x0 ≤ (1 : Nat) → (↑x0 : Int) ≠ (1 : Int) → x0 = (0 : Nat) := by intros; lia
theorem nq621 : ∀ {x0 x1 x5 x7 y0 y1 y2 : Nat}, x0 < y0 + y1 → x5 + (y0 + y1) = x0 + y2 * (0 : Nat) → x7 = x1 := by intros; subst_vars; lia
theorem nq622 {x0 x1 x2 : Nat} : x0 = x1 → x2 = x0 → x2 = x1 := by intros; simp_all
theorem nq623 {x0 x1 x2 x3 x4 x5 x6 : Nat} : x0 + x1 * (x2 * x3 ^ x4) = x5 + x3 ^ (x4 + x6 + (1 : Nat)) * (0 : Nat) → x0 + x1 * (x2 * x3 ^ x4) = x5 := by intros; assumption
theorem nq624 {x0 x1 x2 x3 : Nat} : x0 = x1 + x2 * x3 → x0 = x2 * x3 + x1 := by intros; subst_vars; lia
theorem nq625 {x0 : Nat} : (0 : Nat) < x0 → ¬x0 = (0 : Nat) := by intros; exact Nat.ne_of_gt (by assumption)
theorem nq626 {x0 : Nat} : (0 : Nat) < x0 → x0 = (0 : Nat) → False := by intros; simp_all
theorem nq627 {x0 : Nat} : x0 ≠ (0 : Nat) → (↑x0 : Int) = (0 : Int) → False := by intros; omega
theorem nq628 {x0 x1 : Nat} : (1 : Int) < (0 : Int) → x0 < x1 := by intros; simp_all
theorem nq629 {x0 x1 : Nat} : (0 : Int) < (0 : Int) → x0 < x1 := by intros; simp_all
theorem nq630 {x0 x1 : Nat} : (0 : Int) ≤ (-1 : Int) → x0 ≤ x1 := by intros; exact absurd (by assumption) (by decide)
theorem nq631 : ∀ {x0 x1 y0 y1 : Nat}, x0 = x1 + y0 → x1 < y1 → x0 < y0 + y1 * (1 : Nat) := by intros; subst_vars; lia
theorem nq632 {x0 x1 x2 : Nat} : (1 : Nat) ≤ x0 → x0 - (x1 + (1 : Nat)) = x2 → x2 < x0 := by intros; subst_vars; omega
theorem nq633 {x0 x1 x2 : Nat} : x0 < x1 → x1 - (x0 + (1 : Nat)) = x2 → x0 + (1 : Nat) + x2 = x1 := by intros; subst_vars; omega
theorem nq634 {x0 x1 x2 : Nat} : x0 - (x1 + (1 : Nat)) = x2 → x2 ≤ x0 := by intros; subst_vars; omega
theorem nq635 {x0 : Nat} : x0 ≠ (0 : Nat) → x0 = (x0 - (1 : Nat)).succ := by intros; lia
theorem nq636 : ∀ {y0 y1 y2 y3 y4 : Nat}, y0 < y1 → y1 = y2 → y2 ≤ y3 → y4 = y3 → y0 < y4 := by intros; subst_vars; lia
theorem nq637 {x0 x1 : Nat} : x0 < (2 : Nat) ^ (22 : Nat) → x1 ≤ x0 + (1 : Nat) → x1 < (2 : Nat) ^ (62 : Nat) := by intros; lia
theorem nq638 {x0 x1 : Nat} : x0 ≤ x1 + (1 : Nat) → (0 : Int) ≤ (↑x1 : Int) + (1 : Int) - (↑x0 : Int) := by intros; lia
theorem nq640 {x0 x1 x2 : Nat} : x0 + (1 : Nat) - x1 = x2 → ((↑x0 : Int) + (1 : Int) - (↑x1 : Int)).toNat = x2 := by intros; simp_all
theorem nq641 {x0 x1 x2 : Nat} : x0 ≤ x1 + (1 : Nat) → x1 + (1 : Nat) - x0 = x2 → x0 + x2 = x1 + (1 : Nat) := by intros; grind
theorem nq642 {x0 : Nat} : (2 : Nat) ≤ x0 + (3 : Nat) := Nat.le_add_left _ _
theorem nq643 {x0 x1 : Nat} : x0 ≠ (0 : Nat) → (↑x0 : Int) ≠ (1 : Int) → x1 = x0 → (2 : Nat) ≤ x1 := by intros; subst_vars; lia
theorem nq644 {x0 x1 x2 x3 : Nat} : x0 ≤ x1 → x2 = x0 → x3 = x1 + (1 : Nat) → x2 < x3 := by intros; subst_vars; lia
theorem nq645 {x0 x1 : Nat} : x0 < (2 : Nat) ^ (22 : Nat) → x1 = x0 + (1 : Nat) → x1 < (2 : Nat) ^ (24 : Nat) := by intros; subst_vars; lia
theorem nq646 {x0 x1 : Nat} : x0 ≠ (0 : Nat) → x1 = x0 → x1 - (1 : Nat) < x1 := by intros; lia
theorem nq647 {x0 x1 : Nat} : x0 ≠ (0 : Nat) → x0 ≤ x1 → x0 - (1 : Nat) + (x1 + (1 : Nat) - x0) = x1 := by intros; lia
theorem nq648 {x0 x1 x2 x3 x4 x5 : Nat} : x0 * (2 : Nat) ^ x1 < x2 * x3 ^ (x4 + (1 : Nat) - x5) * (2 : Nat) ^ x1 → x2 * x3 ^ (x4 + (1 : Nat) - x5) * (2 : Nat) ^ x1 = x2 * (2 : Nat) ^ x1 * x3 ^ (x4 + (1 : Nat) - x5) → x0 * (2 : Nat) ^ x1 < x2 * (2 : Nat) ^ x1 * x3 ^ (x4 + (1 : Nat) - x5) := by intros; simp_all
theorem nq649 {x0 x1 x2 x3 : Nat} : x0 < (2 : Nat) ^ (22 : Nat) → x1 = x0 + (1 : Nat) → x2 = x1 - x3 → x2 ≤ (2 : Nat) ^ (24 : Nat) := by intros; subst_vars; omega
theorem nq650 {x0 x1 x2 : Nat} : x0 < (2 : Nat) ^ (22 : Nat) → x1 = x0 + (1 : Nat) → x2 = x1 → x2 ≤ (2 : Nat) ^ (24 : Nat) := by intros; subst_vars; lia
theorem nq651 {x0 x1 x2 x3 : Nat} : x0 < (2 : Nat) ^ (22 : Nat) → x1 = x0 + (1 : Nat) → x2 = x1 → x3 ≤ x2 → x3 < (2 : Nat) ^ (23 : Nat) := by intros; subst_vars; lia
theorem nq652 : ∀ {x0 y0 : Int}, x0 = y0 → (0 : Int) ≤ y0 → x0 = (↑x0.toNat : Int) := by intros; subst_vars; lia
theorem nq653 {x0 : Nat} {x1 x2 : Int} : (0 : Nat) < x0 → x1 = x2 % (↑x0 : Int) → x2 % (↑x0 : Int) < (↑x0 : Int) → x1.toNat < x0 := by intros; simp_all
theorem nq654  : (0 : Int) < (2 : Int) ^ (63 : Nat) := Int.natCast_nonneg _
theorem nq655  : (3 : Int) ≠ (0 : Int) := by decide
theorem nq656  : Int.natAbs (3 : Int) < (1073741824 : Nat) := Nat.le_add_left _ _
theorem nq657 {x0 : Nat} : (0 : Int) ≤ (↑(x0 + (1 : Nat)) : Int) - (1 : Int) := by simp
theorem nq658 {x0 x1 : Nat} : (↑(x0 + (1 : Nat)) : Int) ≤ (↑x1 : Int) → (↑(x0 + (1 : Nat)) : Int) - (1 : Int) < (↑x1 : Int) := by intros; omega
theorem nq659 {x0 x1 x2 : Nat} : x0 < (2 : Nat) ^ (22 : Nat) → x1 + x2 = x0 → x1 < (2 : Nat) ^ (24 : Nat) := by intros; subst_vars; lia
theorem nq660 {x0 : Nat} : (0 : Int) < (↑x0 : Int) → x0 ≠ (0 : Nat) := by intros; lia
theorem nq661 {x0 : Nat} : x0 ≤ (65536 : Nat) → x0 < (2 : Nat) ^ (64 : Nat) := by intros; exact Nat.lt_of_le_of_lt (by assumption) (by decide)
theorem nq662 {x0 x1 : Nat} : x0 < x1 → x1 - (x0 + (1 : Nat)) + (1 : Nat) = x1 - x0 := by intros; grind
theorem nq663 {x0 x1 : Nat} : x0 < x1 → x1 - (x0 + (1 : Nat)) < x1 := by intros; omega
theorem nq664 {x0 x1 : Int} {x2 : Nat} {x3 x4 : Int} : (x0 * x1).natAbs < x2 → (x3 * x4).natAbs < x2 → (x0 * x1 - x3 * x4).natAbs < x2 * (2 : Nat) := fun h k => nq449 h k
theorem nq665 {x0 : Int} : x0 < (0 : Int) → (0 : Int) - (↑x0.natAbs : Int) = x0 := by intros; grind
theorem nq666 {x0 : Int} : (0 : Int) ≤ x0 → (↑x0.natAbs : Int) = x0 := by intros; exact Int.natAbs_of_nonneg (by assumption)
theorem nq668 {x0 x1 : Nat} : x0 < (3 : Nat) → x1 = (3 : Nat) * x0 → x1 + (3 : Nat) ≤ (2 : Nat) ^ (24 : Nat) := by intros; subst_vars; lia
theorem nq669 {x0 : Nat} : x0 = (3 : Nat) * (3 : Nat) → (8 : Int) < (↑x0 : Int) := by intros; subst_vars; decide
theorem nq670 {x0 : Nat} : x0 = (3 : Nat) * (3 : Nat) → (7 : Int) < (↑x0 : Int) := by intros; subst_vars; decide
theorem nq671 {x0 : Nat} : x0 = (3 : Nat) * (3 : Nat) → (6 : Int) < (↑x0 : Int) := by intros; subst_vars; decide
theorem nq672 {x0 : Nat} : x0 < (2 : Nat) ^ (16 : Nat) → x0 + x0 + (1 : Nat) ≤ (2 : Nat) ^ (20 : Nat) := by intros; lia
theorem nq673  : (3 : Nat) + (3 : Nat) ≤ (2 : Nat) ^ (24 : Nat) := Nat.le_add_left _ _
theorem nq674 {x0 : Nat} : x0 = (3 : Nat) * (3 : Nat) → x0 < (2 : Nat) ^ (20 : Nat) := by intros; simp_all
theorem nq675 {x0 : Int} : x0 ≠ (0 : Int) → ((0 : Int) ≤ x0 ↔ (0 : Int) < x0) := by intros; lia
theorem nq676 {x0 : Nat} {x1 : Int} : (x0 = (0 : Nat) ↔ x1 = (0 : Int)) → (0 : Int) < (↑x0 : Int) → x1 = (0 : Int) → False := by intros; simp_all
theorem nq677 {x0 : Nat} : (5 : Nat) ≤ x0 + (5 : Nat) := Nat.le_add_left _ _
theorem nq678 {x0 : Nat} {x1 : Int} : (x0 = (0 : Nat) ↔ x1 = (0 : Int)) → (↑x0 : Int) ≤ (0 : Int) → x1 = (0 : Int) := by intros; simp_all
theorem nq679 {x0 : Nat} {x1 x2 x3 x4 x5 : Int} : (x0 = (0 : Nat) ↔ x1 = (0 : Int)) → (↑x0 : Int) ≤ (0 : Int) → x1 = (1 : Int) → x2 ≠ (0 : Int) ∧ x3 = x4 ∧ x5 = (0 : Int) := by intros; simp_all
theorem nq680 {x0 : Nat} {x1 x2 : Int} : (x0 = (0 : Nat) ↔ x1 = (0 : Int)) → (↑x0 : Int) ≤ (0 : Int) → x1 = x2 → x2 = (0 : Int) := by intros; simp_all
theorem nq681 {x0 x1 : Nat} : x0 < x1 → Min.min (x0 + (1 : Nat)) x1 = x0 + (1 : Nat) := by intros; lia
theorem nq682 {x0 x1 x2 : Nat} : x0 = x1 → x2 < x0 → Min.min (x2 + (1 : Nat)) x1 = x2 + (1 : Nat) := by intros; lia
theorem nq683 {x0 x1 x2 : Nat} : x0 = x1 → x2 < x0 → x2 < x1 := by intros; simp_all
theorem nq684 : ∀ {x0 x6 y0 y1 y2 y3 : Nat}, x0 < y0 → y1 + y0 * (1 : Nat) ≤ y2 → x0 + y1 + y3 < x6 + y2 + y3 := by intros; lia
theorem nq685 : ∀ {x0 x4 y0 y1 : Nat}, x0 < y0 → y1 ≤ x4 → y0 ≤ y1 → x0 < x4 := by intros; lia
theorem nq686 {x0 : Nat} : x0 ≤ (2 : Nat) ^ (24 : Nat) → (↑x0 : Int) - (1 : Int) < (2 : Int) ^ (62 : Nat) := by intros; lia
theorem nq687 {x0 x1 : Nat} : x0 < x1 → ¬x1 < x0 := by intros; lia
theorem nq688 {x0 x1 : Nat} : ((↑x0 : Int) - (1 : Int) - (↑x1 : Int)).toNat = x0 - (1 : Nat) - x1 := by simp
theorem nq689 {x0 x1 : Nat} : x0 < x1 → x1 - (1 : Nat) - x0 < x1 := by intros; omega
theorem nq690 {x0 x1 : Nat} : x0 < x1 → x1 - (1 : Nat) - x0 + (1 : Nat) = x1 - x0 := by intros; grind
theorem nq691 {x0 x1 : Nat} : x0 < ((↑x1 : Int) - (1 : Int) + (1 : Int)).toNat → x0 < x1 := by intros; simp_all
theorem nq692 {x0 x1 x2 x3 : Nat} : x0 = x1 → x2 = x3 → x0 < x2 → x1 < x3 := by intros; simp_all
theorem nq693 {x0 x1 : Nat} : (↑x0 : Int) = (↑x1 : Int) → x1 = x0 := by intros; lia
theorem nq694 {x0 x1 x2 : Nat} : (↑x0 : Int) = (↑x1 : Int) → x2 < ((↑x0 : Int) - (1 : Int) + (1 : Int)).toNat → x2 < x1 := by intros; simp_all
theorem nq695 {x0 x1 x2 x3 : Nat} : x0 = x1 → x2 = x3 → x2 < x0 → ¬x1 < x3 := by intros; subst_vars; lia
theorem nq696 {x0 x1 x2 x3 : Nat} : x0 = x1 → x2 = x3 → x2 < x0 → x3 < x1 := by intros; simp_all
theorem nq697 {x0 x1 : Nat} : x0 - (x1 + (1 : Nat)) = x0 - (1 : Nat) - x1 := by lia
theorem nq698 {x0 x1 x2 : Nat} : (↑x0 : Int) = (↑x1 : Int) → x2 < ((↑x0 : Int) - (1 : Int) + (1 : Int)).toNat → x0 - (1 : Nat) - x2 < x1 := by intros; omega
theorem nq699 {x0 x1 : Nat} : x0 < ((↑x1 : Int) - (1 : Int) + (1 : Int)).toNat → x1 - (1 : Nat) - x0 + (1 : Nat) = x1 - x0 := by intros; lia
theorem nq700 {x0 : Nat} : x0 - ((↑x0 : Int) - (1 : Int) + (1 : Int)).toNat = (0 : Nat) := by simp
theorem nq701 {x0 x1 : Nat} : x0 = x1 → ¬x0 < x1 := by intros; simp_all
theorem nq702 {x0 x1 : Nat} : x0 = x1 → ¬x1 < x0 := by intros; simp_all
theorem nq703 {x0 : Nat} : x0 < (0 : Nat) → False := by intros; omega
theorem nq704  : (1 : Nat) ≤ (0 : Nat) → False := by intros; omega
theorem nq705  : (2 : Nat) ≤ (0 : Nat) → False := by intros; omega
theorem nq706 {x0 x1 : Nat} {x2 : Int} : x0 < x1 → x1 < x0 + (1 : Nat) + (0 : Nat) → x2 = (0 : Int) := by intros; lia
theorem nq707 {x0 : Nat} : (6 : Nat) ≤ x0 + (6 : Nat) := Nat.le_add_left _ _
theorem nq708 {x0 : Nat} : (↑x0 : Int) = (1 : Int) → (1 : Nat) ≤ x0 := by intros; lia
theorem nq709 {x0 : Nat} : x0 < Int.toNat (2 : Int) → x0 + (1 : Nat) + ((3 : Int) - ((↑x0 : Int) + (1 : Int))).toNat = (3 : Nat) := by intros; grind
theorem nq710 {x0 : Nat} : x0 = (0 : Nat) → ¬x0 = (1 : Nat) := by intros; subst_vars; decide
theorem nq711 {x0 : Nat} : ¬x0 = (0 : Nat) → (1 : Nat) ≤ x0 := by intros; exact Nat.pos_of_ne_zero (by assumption)
theorem nq712 {x0 : Nat} : x0 < Int.toNat (2 : Int) → (2 : Nat) ≤ x0 + (1 : Nat) → x0 = (1 : Nat) := by intros; lia
theorem nq713 {x0 x1 x2 : Nat} {x3 x4 : Int} : x0 < x1 → x1 < x0 + (1 : Nat) + (0 : Nat) → x0 < x2 → x2 < (3 : Nat) → x3 ∣ x4 := by intros; lia
theorem nq714  : (3 : Nat) ≤ (2 : Nat) ^ (24 : Nat) := Nat.le_add_left _ _
theorem nq715 {x0 x1 : Nat} {x2 x3 : Int} : x0 < x1 → x1 < x0 + (1 : Nat) + (0 : Nat) → x2 ∣ x3 := by intros; lia
theorem nq716 {x0 x1 : Nat} : x0 < (2 : Nat) - x1 → x1 + (1 : Nat) + x0 < (3 : Nat) := by intros; omega
theorem nq717 {x0 : Nat} : (0 : Nat) + (5 : Nat) ≤ x0 + (6 : Nat) := Nat.le_add_left _ _
theorem nq718 {x0 x1 : Nat} : x0 < (3 : Nat) → x0 < x1 + (1 : Nat) + ((2 : Nat) - x1) := by intros; omega
theorem nq719 {x0 x1 : Nat} : x0 < x1 + (1 : Nat) → x0 ≥ x1 → x0 = x1 := by intros; lia
theorem nq720 {x0 x1 : Nat} : x0 < (3 : Nat) → x0 < x1 + (1 : Nat) + ((3 : Int) - ((↑x1 : Int) + (1 : Int))).toNat := by intros; lia
theorem nq721 {x0 : Nat} : (Max.max (0 : Int) (Min.min (if (10 : Int) < (0 : Int) then (10 : Int) + (↑x0 : Int) else (10 : Int)) (↑x0 : Int))).toNat ≤ (10 : Nat) := by lia
theorem nq722 {x0 x1 : Nat} : x0 ≤ (10 : Nat) → Min.min x0 x1 ≤ (10 : Nat) := by intros; lia
theorem nq723 {x0 : Nat} : x0 ≤ (63 : Nat) → x0 ≤ (2 : Nat) ^ (24 : Nat) := by intros; exact Nat.le_trans (by assumption) (by decide)
theorem nq724 {x0 : Nat} : x0 ≤ (10 : Nat) → x0 ≤ (2 : Nat) ^ (24 : Nat) := by intros; exact Nat.le_trans (by assumption) (by decide)
theorem nq725 {x0 : Nat} : x0 ≤ (10 : Nat) → x0 ≤ (10 : Nat) := by intros; assumption
theorem nq726 {x0 : Nat} : (3 : Nat) ≤ (3 : Nat) + x0 := Nat.le_add_right _ _
theorem nq727 {x0 : Nat} : x0 < (6 : Nat) → (3 : Nat) + x0 ≤ (8 : Nat) := by intros; lia
theorem nq728 {x0 : Int} : x0.natAbs ≤ (4 : Nat) → x0.natAbs < (2 : Nat) ^ (3 : Nat) := by intros; exact Nat.lt_of_le_of_lt (by assumption) (by decide)
theorem nq729 {x0 x1 : Nat} : x0 < Int.toNat (3 : Int) → x1 < Int.toNat (3 : Int) → (1 : Nat) + (3 : Nat) * x0 + x1 < (2 : Nat) ^ (20 : Nat) := by intros; lia
theorem nq730  : (3 : Nat) < (2 : Nat) ^ (16 : Nat) := Nat.le_add_left _ _
theorem nq731 {x0 : Nat} : (0 : Nat) + (9 : Nat) ≤ x0 + (9 : Nat) := Nat.le_add_left _ _
theorem nq732 {x0 x1 : Nat} : x0 < (3 : Nat) → x1 < (3 : Nat) → (3 : Nat) * x0 + x1 ≤ (2 : Nat) ^ (24 : Nat) := by intros; lia
theorem nq733 {x0 : Nat} : (0 : Nat) + (6 : Nat) ≤ x0 + (9 : Nat) := Nat.le_add_left _ _
theorem nq734 {x0 x1 : Nat} : (↑x0 : Int) ≠ (↑x1 : Int) → x1 ≠ x0 := by intros; lia
theorem nq735 {x0 : Nat} : x0 < (2 : Nat) ^ (16 : Nat) → x0 + x0 ≤ (2 : Nat) ^ (20 : Nat) := by intros; lia
theorem nq736  : (0 : Int) ≤ (80 : Int) := Int.natCast_nonneg _
theorem nq737  : (80 : Int) < (2 : Int) ^ (62 : Nat) := Int.natCast_nonneg _
theorem nq738 {x0 : Nat} : x0 < Int.toNat (80 : Int) → (80 : Nat) - x0 = (79 : Nat) - x0 + (1 : Nat) := by intros; grind
theorem nq739 {x0 : Nat} : (7 : Nat) ≤ x0 + (9 : Nat) := Nat.le_add_left _ _
theorem nq740 {x0 : Nat} : (80 : Nat) - (x0 + (1 : Nat)) = (79 : Nat) - x0 := by simp
theorem nq742 {x0 x1 x2 x3 x4 : Nat} : x0 ≤ (1 : Nat) → x1 < x2 → x3 < x2 → x0 + (x1 + x3) = x4 → x4 < (2 : Nat) * x2 := by intros; subst_vars; lia
theorem nq743 : ∀ {x0 x4 x5 y0 y1 y2 : Nat}, x0 + y0 = x4 + x5 → x0 + (y0 + (y1 + y2)) = x4 + y1 + (x5 + y2) := by intros; grind
theorem nq744 {x0 x1 : Nat} : x0 = x1 → x0 = x1 + (0 : Nat) := by intros; assumption
theorem nq746 {x0 x1 : Nat} : x0 + x1 + (1 : Nat) = x0 + (x1 + (1 : Nat)) := Nat.add_assoc _ _ _
theorem nq747 {x0 x1 x2 x3 : Nat} : x0 ≤ (1 : Nat) → x1 < x2 → x0 + x1 = x3 → x3 < (2 : Nat) * x2 := by intros; subst_vars; lia
theorem nq748 : ∀ {x0 x5 x6 y0 y1 : Nat}, x0 + y0 = x5 + x6 → x0 + (y0 + y1) = x5 + y1 + x6 := by intros; grind
theorem nq749 {x0 : Nat} : x0 ≤ (1 : Nat) → (0 : Int) < (↑x0 : Int) → x0 = (1 : Nat) := by intros; lia
theorem nq750 : ∀ {x2 x3 y0 : Nat}, y0 ≤ x2 → y0 ≤ x2 + x3 := by intros; lia
theorem nq751 {x0 x1 : Nat} : (↑x0 : Int) < (↑x1 : Int) → x0 ≤ x1 := by intros; lia
theorem nq752 {x0 x1 : Nat} : x0 + x1 = x1 + x0 := Nat.add_comm _ _
theorem nq753 {x0 x1 : Nat} : ¬x0 < x1 → x1 ≤ x0 + (1 : Nat) := by intros; lia
theorem nq754 {x0 : Nat} : x0 < (2 : Nat) ^ (24 : Nat) → x0 ≤ (2 : Nat) ^ (24 : Nat) := by intros; exact Nat.le_of_lt (by assumption)
theorem nq755 {x0 x1 : Nat} : x0 < (2 : Nat) ^ (24 : Nat) → x1 ≤ x0 → x1 ≤ (2 : Nat) ^ (24 : Nat) := by intros; lia
theorem nq756 {x0 x1 : Nat} : x0 ≤ x1 → ¬x1 < x0 := by intros; simp_all
theorem nq757  : (1 : Int) < (0 : Int) → False := by intros; simp_all
theorem nq758  : (0 : Int) < (0 : Int) → False := by intros; simp_all
theorem nq759 : ∀ {x0 x1 x2 y0 y1 y2 y3 y4 : Nat}, x0 + x1 = x2 + y0 → y1 + y2 + y0 = y3 + y4 → x0 + y1 + (x1 + y2) = x2 + y3 + y4 := by intros; grind
theorem nq760 {x0 x1 x2 : Nat} : (↑x0 : Int) - (↑x1 : Int) - (↑x2 : Int) < (0 : Int) → (0 : Int) ≤ (↑x0 : Int) - (↑x1 : Int) - (↑x2 : Int) → False := by intros; omega
theorem nq762 {x0 x1 : Nat} : (↑x0 : Int) - (↑x1 : Int) - (0 : Int) < (0 : Int) → (0 : Int) ≤ (↑x0 : Int) - (↑x1 : Int) - (0 : Int) → False := by intros; omega
theorem nq764 {x0 x1 x2 x3 : Nat} : x0 ≤ (1 : Nat) → x1 < x2 → x3 + x2 - x0 - x1 + x1 + x0 = x3 + x2 * (1 : Nat) := by intros; lia
theorem nq765 {x0 x1 x2 x3 : Nat} : (2 : Nat) ≤ x0 → (↑x1 : Int) - (↑x2 : Int) - (↑x3 : Int) < (0 : Int) → x1 + x0 - x2 - x3 < x0 := by intros; omega
theorem nq766 : ∀ {x0 x1 x3 y0 : Nat}, x0 ≤ (1 : Nat) → x1 < y0 → (↑x3 : Int) - (↑x0 : Int) - (↑x1 : Int) + (↑y0 : Int) = (↑(x3 + y0 - x0 - x1) : Int) := by intros; lia
theorem nq767 {x0 x1 x2 x3 : Nat} : (0 : Int) ≤ (↑x0 : Int) - (↑x1 : Int) - (↑x2 : Int) → x0 - x1 - x2 + x2 + x1 = x0 + x3 * (0 : Nat) := by intros; lia
theorem nq768 {x0 x1 x2 x3 : Nat} : x0 < x1 → x0 - x2 - x3 < x1 := by intros; omega
theorem nq769 {x0 x1 x2 : Nat} : (0 : Int) ≤ (↑x0 : Int) - (↑x1 : Int) - (↑x2 : Int) → (↑x0 : Int) - (↑x1 : Int) - (↑x2 : Int) = (↑(x0 - x1 - x2) : Int) := by intros; lia
theorem nq770 {x0 x1 x2 x3 : Nat} : (2 : Nat) ≤ x0 → x1 ≤ (1 : Nat) → x2 = (0 : Nat) → x3 + x0 - x1 + x2 + x1 = x3 + x0 * (1 : Nat) := by intros; subst_vars; lia
theorem nq771 {x0 x1 x2 : Nat} : (2 : Nat) ≤ x0 → (↑x1 : Int) - (↑x2 : Int) - (0 : Int) < (0 : Int) → x1 + x0 - x2 < x0 := by intros; omega
theorem nq772 : ∀ {x1 x2 y0 : Nat}, (2 : Nat) ≤ y0 → x1 ≤ (1 : Nat) → (↑x2 : Int) - (↑x1 : Int) - (0 : Int) + (↑y0 : Int) = (↑(x2 + y0 - x1) : Int) := by intros; lia
theorem nq773 {x0 x1 x2 x3 : Nat} : (0 : Int) ≤ (↑x0 : Int) - (↑x1 : Int) - (0 : Int) → x2 = (0 : Nat) → x0 - x1 + x2 + x1 = x0 + x3 * (0 : Nat) := by intros; simp_all
theorem nq774 {x0 x1 : Nat} : (0 : Int) ≤ (↑x0 : Int) - (↑x1 : Int) - (0 : Int) → (↑x0 : Int) - (↑x1 : Int) - (0 : Int) = (↑(x0 - x1) : Int) := by intros; lia
theorem nq775 {x0 : Nat} : x0 ≤ (1 : Nat) → (0 : Nat) < x0 → x0 = (1 : Nat) := by intros; lia
theorem nq776 : ∀ {x0 x1 x2 x3 x4 y0 : Nat}, x0 ≤ x1 → x2 = x1 → x3 = x0 → x4 < y0 → x4 + x3 = x2 + y0 * (1 : Nat) → (1 : Nat) = (0 : Nat) := by intros; subst_vars; lia
theorem nq777 {x0 : Nat} : (0 : Nat) ≥ x0 → x0 = (0 : Nat) := by intros; exact Nat.eq_zero_of_le_zero (by assumption)
theorem nq778 {x0 x1 x2 x3 x4 : Nat} : x0 = x1 → x2 = x3 → x4 + x2 = x0 → x4 = x1 - x3 := by intros; subst_vars; lia
theorem nq779 {x0 : Nat} : (0 : Nat) < x0 → (↑x0 : Int) = (0 : Int) → False := by intros; simp_all
theorem nq780 {x0 : Nat} : x0 < (2 : Nat) ^ (24 : Nat) → (↑x0 : Int) ≤ (2 : Int) ^ (24 : Nat) := by intros; lia
theorem nq781 {x0 : Nat} : x0 < (2 : Nat) ^ (24 : Nat) → (↑x0 : Int) - (1 : Int) < (2 : Int) ^ (62 : Nat) := by intros; lia
theorem nq782 {x0 x1 : Nat} : x0 < ((↑x1 : Int) - (1 : Int) + (1 : Int)).toNat → (↑x1 : Int) - (1 : Int) - (↑x0 : Int) = (↑(x1 - (1 : Nat) - x0) : Int) := by intros; grind
theorem nq783 {x0 x1 x2 : Nat} : x0 < x1 → x1 ≤ (65536 : Nat) → x2 < x0 → x2 < (2 : Nat) ^ (64 : Nat) := by intros; lia
theorem nq784 {x0 x1 : Nat} : (0 : Int) ≤ (↑(x0 - (1 : Nat) - x1) : Int) := Int.natCast_nonneg _
theorem nq785 {x0 x1 : Nat} : x0 < (2 : Nat) ^ (24 : Nat) → (↑(x0 - (1 : Nat) - x1) : Int) < (2 : Int) ^ (63 : Nat) := by intros; omega
theorem nq786 {x0 x1 x2 : Nat} : x0 < ((↑x1 : Int) - (1 : Int) + (1 : Int)).toNat → (↑(x1 - (1 : Nat) - x0) : Int) < (↑(x1 - x0) : Int) + (↑x2 : Int) := by intros; lia
theorem nq787 {x0 x1 : Nat} : x0 < ((↑x1 : Int) - (1 : Int) + (1 : Int)).toNat → x1 - x0 = x1 - (1 : Nat) - x0 + (1 : Nat) := by intros; lia
theorem nq788 {x0 x1 : Nat} : x0 < ((↑x1 : Int) - (1 : Int) + (1 : Int)).toNat → x1 - (x0 + (1 : Nat)) < x1 := by intros; omega
theorem nq789 {x0 x1 : Nat} : x0 < ((↑x1 : Int) - (1 : Int) + (1 : Int)).toNat → x1 - (x0 + (1 : Nat)) + (1 : Nat) = x1 - x0 := by intros; lia
theorem nq790 : ∀ {x0 x1 y0 y1 : Nat}, x0 < x1 → y0 + (1 : Nat) * x1 ≤ y1 → y0 + x0 < y1 := by intros; lia
theorem nq791 : ∀ {x3 y0 y1 y2 y3 : Nat}, y0 + y1 = y2 + x3 → x3 + (y3 + y2) = y0 + y3 + y1 := by intros; lia
theorem nq792  : (↑(0 : Nat) : Int) ≤ (2 : Int) ^ (24 : Nat) := by simp
theorem nq793 {x0 x1 : Nat} : x0 ≤ (16 : Nat) → x1 < x0 → x1 ≤ (1000000 : Nat) := by intros; lia
theorem nq794 {x0 x1 : Nat} : x0 < (2 : Nat) ^ x1 → x0 < (2 : Nat) ^ x1 := by intros; assumption
theorem nq796 : ∀ {x0 x3 y0 y1 y2 : Nat}, x0 < y0 → y1 + x0 = x3 → y1 + (1 : Nat) * y0 ≤ y2 → x3 < y2 := by intros; subst_vars; lia
theorem nq797 : ∀ {x0 y0 y1 y2 : Nat}, x0 + y0 = y1 → x0 + (y2 + y0) = y1 + y2 := by intros; subst_vars; lia
theorem nq799 {x0 x1 x2 : Nat} : (2 : Nat) ^ x0 ≤ x1 → x2 < (2 : Nat) ^ x0 → x2 < x1 := by intros; exact Nat.lt_of_lt_of_le (by assumption) (by assumption)
theorem nq800 {x0 x1 : Nat} : x0 < x1 → x1 = x0 + (x1 - x0) := by intros; lia
theorem nq801 : ∀ {x4 y0 y1 y2 : Nat}, y0 < y1 → y2 + (1 : Nat) * y1 ≤ x4 → y2 + y0 < x4 := by intros; lia
theorem nq802 {x0 : Nat} : x0 < (2 : Nat) ^ (23 : Nat) → (↑x0 : Int) < (2 : Int) ^ (62 : Nat) := by intros; lia
theorem nq803  : (↑(0 : Nat) : Int) < (2 : Int) ^ (62 : Nat) := Int.natCast_nonneg _
theorem nq804 {x0 : Nat} : (↑(0 : Nat) : Int) + (↑x0 : Int) = (↑x0 : Int) := Int.add_comm _ _
theorem nq805 : ∀ {x3 y0 y1 y2 y3 y4 : Nat}, y0 + y1 = x3 + y2 → y0 + y3 + y4 + y1 = x3 + (y4 + y2) + y3 := by intros; lia
theorem nq806 {x0 x1 : Nat} : (↑x0 : Int) + (1 : Int) < (↑x1 : Int) → (↑x0 : Int) + (1 : Int) < (↑x1 : Int) := by intros; assumption
theorem nq807 {x0 x1 : Nat} : x0 ≤ (16 : Nat) → x0 - x1 ≤ (1000000 : Nat) := by intros; lia
theorem nq808 {x0 x1 x2 : Nat} : x0 / (2 : Nat) ^ x1 < (2 : Nat) ^ (x2 - x1) → x0 / (2 : Nat) ^ x1 < (2 : Nat) ^ (x2 - x1) := by intros; assumption
theorem nq809 {x0 x1 : Nat} : (0 : Int) ≤ (↑(x0 - x1) : Int) := Int.natCast_nonneg _
theorem nq810 {x0 x1 : Nat} : x0 ≤ (16 : Nat) → (↑(x0 - x1) : Int) ≤ (1000000 : Int) := by intros; lia
theorem nq811  : Int.natAbs (0 : Int) < (2 : Nat) ^ (64 : Nat) := Nat.succ_pos _
theorem nq812 {x0 x1 : Nat} : (↑x0 : Int) ≤ (↑x1 : Int) + (1 : Int) → x0 ≤ x1 + (1 : Nat) := by intros; exact Int.ofNat_le.mp (by assumption)
theorem nq813 {x0 x1 : Nat} : x0 < (2 : Nat) ^ (23 : Nat) → x1 = x0 → x1 ≤ (2 : Nat) ^ (24 : Nat) := by intros; subst_vars; lia
theorem nq814 {x0 x1 x2 x3 : Nat} : (2 : Nat) ^ x0 * x1 + x2 % (2 : Nat) ^ x0 = x3 → (2 : Nat) ^ x0 * x1 ≤ x3 := by intros; subst_vars; lia
theorem nq815 {x0 x1 x2 x3 : Nat} : (2 : Nat) ^ x0 * x1 + x2 % (2 : Nat) ^ x0 = x3 → x3 < (2 : Nat) ^ x0 * x1 + (1 : Nat) * (2 : Nat) ^ x0 := by intros; subst_vars; omega
end Smith

end

section
namespace Smith

abbrev Fz := Addr → Option Obj

/-- plain data -/
inductive D where
  | none
  | bool (b : Bool)
  | int (i : Int)
  | lst (xs : List D)
  | tup (xs : List D)
  | fn (a : Addr)
  | bi (id : String)
  | ty (n : String)

noncomputable abbrev lobj (vs : List Value) (n : Nat) : Obj := { cls := .type "list", dict := none, data := .seq vs.toArray n, slots := #[] }
noncomputable abbrev tobj (vs : List Value) (n : Nat) : Obj := { cls := .type "tuple", dict := none, data := .seq vs.toArray n, slots := #[] }

mutual
inductive Rep (z : Fz) : Value → D → Prop where
  | none : Rep z .none .none
  | bool (b : Bool) : Rep z (.bool b) (.bool b)
  | int (i : Int) (t : Tok) : Rep z (.int i t) (.int i)
  | fn (a : Addr) : Rep z (.ref a) (.fn a)
  | bi (id : String) : Rep z (.builtin id) (.bi id)
  | ty (n : String) : Rep z (.type n) (.ty n)
  | lst {a : Addr} {vs : List Value} {n : Nat} {ds : List D} : z a = some (lobj vs n) → RepL z vs ds → Rep z (.ref a) (.lst ds)
  | tup {a : Addr} {vs : List Value} {n : Nat} {ds : List D} : z a = some (tobj vs n) → RepL z vs ds → Rep z (.ref a) (.tup ds)
inductive RepL (z : Fz) : List Value → List D → Prop where
  | nil : RepL z [] []
  | cons {v : Value} {d : D} {vs : List Value} {ds : List D} : Rep z v d → RepL z vs ds → RepL z (v :: vs) (d :: ds)
end

def Le (z z' : Fz) : Prop := ∀ b o, z b = some o → z' b = some o
theorem Le.rfl {z : Fz} : Le z z := fun _ _ h => h
theorem Le.trans {a b c : Fz} (h : Le a b) (g : Le b c) : Le a c := fun _ _ e => g _ _ (h _ _ e)

theorem Rep.mono {z z' : Fz} (h : Le z z') {v : Value} {d : D} (r : Rep z v d) : Rep z' v d :=
  Rep.rec (motive_1 := fun v d _ => Rep z' v d) (motive_2 := fun vs ds _ => RepL z' vs ds)
    .none .bool .int .fn .bi .ty (fun e _ r => .lst (h _ _ e) r) (fun e _ r => .tup (h _ _ e) r) .nil (fun _ _ a b => .cons a b) r
theorem RepL.mono {z z' : Fz} (h : Le z z') : ∀ {vs : List Value} {ds : List D}, RepL z vs ds → RepL z' vs ds
  | _, _, .nil => .nil
  | _, _, .cons a b => .cons (a.mono h) (b.mono h)
theorem RepL.length {z : Fz} : ∀ {vs : List Value} {ds : List D}, RepL z vs ds → vs.length = ds.length
  | _, _, .nil => rfl
  | _, _, .cons _ b => congrArg (· + 1) b.length
theorem RepL.get {z : Fz} : ∀ {vs : List Value} {ds : List D}, RepL z vs ds → ∀ {i : Nat} {d : D}, ds[i]? = some d → ∃ v, vs[i]? = some v ∧ Rep z v d
  | _, _, .nil, i, d, h => by simp at h
  | _, _, .cons (v := v) a b, 0, d, h => ⟨v, rfl, by simp at h; exact h ▸ a⟩
  | _, _, .cons a b, i + 1, d, h => by
    obtain ⟨v, e, r⟩ := b.get (i := i) (d := d) (by simpa using h)
    exact ⟨v, by simpa using e, r⟩
theorem RepL.app {z : Fz} : ∀ {vs ws : List Value} {ds es : List D}, RepL z vs ds → RepL z ws es → RepL z (vs ++ ws) (ds ++ es)
  | _, _, _, _, .nil, g => g
  | _, _, _, _, .cons a b, g => .cons a (b.app g)
theorem RepL.set {z : Fz} : ∀ {vs : List Value} {ds : List D}, RepL z vs ds → ∀ (i : Nat) {v : Value} {d : D}, Rep z v d → RepL z (vs.set i v) (ds.set i d)
  | _, _, .nil, _, _, _, _ => .nil
  | _, _, .cons a b, 0, _, _, r => .cons r b
  | _, _, .cons a b, i + 1, _, _, r => .cons a (b.set i r)
theorem RepL.take {z : Fz} : ∀ {vs : List Value} {ds : List D}, RepL z vs ds → ∀ (i : Nat), RepL z (vs.take i) (ds.take i)
  | _, _, .nil, i => by simp; exact .nil
  | _, _, .cons a b, 0 => .nil
  | _, _, .cons a b, i + 1 => .cons a (b.take i)
theorem RepL.drop {z : Fz} : ∀ {vs : List Value} {ds : List D}, RepL z vs ds → ∀ (i : Nat), RepL z (vs.drop i) (ds.drop i)
  | _, _, .nil, i => by simp; exact .nil
  | _, _, .cons a b, 0 => .cons a b
  | _, _, .cons a b, i + 1 => b.drop i
theorem RepL.reverse {z : Fz} : ∀ {vs : List Value} {ds : List D}, RepL z vs ds → RepL z vs.reverse ds.reverse
  | _, _, .nil => .nil
  | _, _, .cons a b => by simp only [List.reverse_cons]; exact b.reverse.app (.cons a .nil)

/-- what a local name holds: data, or a list of its own that may still change -/
inductive LV where
  | val (d : D)
  | own (p : Option Addr) (xs : List D)
abbrev St := List (Str × LV)

def Sub (σ' σ : St) : Prop := ∀ p ∈ σ', σ.lookup p.1 = some p.2
theorem mem_of_lookup {β : Type} {x : Str} {y : β} : ∀ {σ : List (Str × β)}, σ.lookup x = some y → (x, y) ∈ σ
  | (a, b) :: r, h => by
    rw [List.lookup_cons] at h
    by_cases e : (x == a) = true
    · rw [e] at h; cases h; rw [beq_iff_eq.mp e]; exact .head _
    · simp only [Bool.not_eq_true] at e; rw [e] at h; exact .tail _ (mem_of_lookup h)
theorem Sub.get {σ' σ : St} (h : Sub σ' σ) {x : Str} {l : LV} (e : σ'.lookup x = some l) : σ.lookup x = some l := h _ (mem_of_lookup e)

structure EnvOk (sc : Scope) (env : Env) : Prop where
  scope : env.scope = sc
  kind : sc.kind = .function
  glob : env.globals = mainGlobals
  blt : env.builtins = builtinsNs

inductive Var (sc : Scope) (env : Env) (kz : Fz) (h : Heap) (m : Str → Option Value) (x : Str) (v : Value) : Prop where
  | loc : sc.names.lookup x = some .local → m x = some v → Var sc env kz h m x v
  | cell (ca : Addr) : sc.names.lookup x = some .cell → env.cells.lookup x = some ca → h.IsCell ca (some v) → Var sc env kz h m x v
  | free (ca : Addr) (o : Obj) : sc.names.lookup x = some .free → env.cells.lookup x = some ca → kz ca = some o → o.data = .cell (some v) → Var sc env kz h m x v

inductive ListAt (z : Fz) (h : Heap) (a : Addr) (xs : List D) : Prop where
  | mk (vs : List Value) (n : Nat) : h.get? a = some (lobj vs n) → RepL z vs xs → ListAt z h a xs
inductive OwnAt (kz z : Fz) (h : Heap) (a : Addr) (v : Value) (p : Option Addr) (xs : List D) : Prop where
  | mk : v = .ref a → ListAt z h a xs → kz a = none → z a = none → (∀ b, p = some b → a = b) → OwnAt kz z h a v p xs
def Holds (kz z : Fz) (h : Heap) (α : Str → Addr) (x : Str) (v : Value) : LV → Prop
  | .val d => Rep z v d
  | .own p xs => OwnAt kz z h (α x) v p xs
inductive CellAt (env : Env) (kz z : Fz) (h : Heap) (x : Str) : Prop where
  | mk (ca : Addr) (v : Option Value) : env.cells.lookup x = some ca → h.IsCell ca v → kz ca = none → z ca = none → CellAt env kz z h x
inductive NameAt (sc : Scope) (env : Env) (kz z : Fz) (h : Heap) (m : Str → Option Value) (α : Str → Addr) (x : Str) (lv : LV) : Prop where
  | mk (v : Value) : Var sc env kz h m x v → Holds kz z h α x v lv → NameAt sc env kz z h m α x lv
inductive Locals (sc : Scope) (env : Env) (σ : St) (kz z : Fz) (h : Heap) : Prop where
  | mk (m : Str → Option Value) (α : Str → Addr) : h.Ns env.locals m → (∀ x lv, σ.lookup x = some lv → NameAt sc env kz z h m α x lv) →
    (∀ x y p q xs ys, σ.lookup x = some (.own p xs) → σ.lookup y = some (.own q ys) → α x = α y → x = y) → Locals sc env σ kz z h

structure Sim (hT : Heap) (os0 : OsState) (sc : Scope) (env : Env) (σ : St) (kz z : Fz) (s : Shared) : Prop where
  keep : Le kz s.heap.get?
  froz : Le z s.heap.get?
  top : Le hT.get? kz
  topz : Le hT.get? z
  gens : s.gens = #[]
  os : s.os = os0
  priv : kz env.locals = none ∧ z env.locals = none
  cellT : ∀ x, sc.names.lookup x = some .cell → CellAt env kz z s.heap x
  cellD : ∀ x y ca, sc.names.lookup x = some .cell → sc.names.lookup y = some .cell → env.cells.lookup x = some ca → env.cells.lookup y = some ca → x = y
  loc : Locals sc env σ kz z s.heap

/-- z grew; the new part is no part of kz -/
structure Grow (kz z z' : Fz) : Prop where
  le : Le z z'
  new : ∀ b o, z' b = some o → z b = some o ∨ kz b = none
theorem Grow.rfl {kz z : Fz} : Grow kz z z := ⟨Le.rfl, fun _ _ h => .inl h⟩
theorem Grow.trans {kz a b c : Fz} (h : Grow kz a b) (g : Grow kz b c) : Grow kz a c :=
  ⟨h.1.trans g.1, fun x o e => (g.2 x o e).elim (h.2 x o) .inr⟩

structure Room (k : Nat) (A : Around) : Prop where
  hand : A.handled = none
  deep : A.depth + k < recursionLimit
  unit : A.units + 8 * k + 40 < cLine
theorem Room.le {k j : Nat} {A : Around} (h : Room k A) (hj : j ≤ k) : Room j A :=
  ⟨h.hand, Nat.lt_of_le_of_lt (Nat.add_le_add_left hj _) h.deep, Nat.lt_of_le_of_lt (Nat.add_le_add_right (Nat.add_le_add_left (Nat.mul_le_mul_left 8 hj) _) 40) h.unit⟩

section
variable (prog : Program) (w : World) (hT : Heap) (os0 : OsState)

inductive Wat {α β : Type} (sc : Scope) (env : Env) (kz z : Fz) (R : Fz → α → β → Prop) (Q : β → St → Prop) (a : α) (s' : Shared) : Prop where
  | mk (b : β) (σ' : St) (z' : Fz) : Grow kz z z' → Sim hT os0 sc env σ' kz z' s' → R z' a b → Q b σ' → Wat sc env kz z R Q a s'

def W {α β : Type} (k : Nat) (sc : Scope) (R : Fz → α → β → Prop) (t : Env → Sem α) (σ : St) (Q : β → St → Prop) : Prop :=
  ∀ env A s kz z, EnvOk sc env → Room k A → Sim hT os0 sc env σ kz z s →
    wpAny (model prog w) A (t env) (Wat hT os0 sc env kz z R Q) (fun _ _ => False) s

/-- a pure call over data: the heap grows, nothing that stood changes -/
structure GrowH (s : Shared) (z : Fz) (s' : Shared) (z' : Fz) : Prop where
  keep : Le s.heap.get? s'.heap.get?
  grow : Grow s.heap.get? z z'
  froz : Le z' s'.heap.get?
  gens : s'.gens = s.gens
  os : s'.os = s.os
structure Base (s : Shared) (z : Fz) : Prop where
  topz : Le hT.get? z
  froz : Le z s.heap.get?
  gens : s.gens = #[]
  os : s.os = os0
inductive OpAns (K : D → Prop) (s : Shared) (z : Fz) (v : Value) (s' : Shared) : Prop where
  | mk (d : D) (z' : Fz) : GrowH s z s' z' → Rep z' v d → K d → OpAns K s z v s'
def Op (k : Nat) (ds : List D) (t : List Value → Sem Value) (K : D → Prop) : Prop :=
  ∀ A s z vs, Room k A → Base hT os0 s z → RepL z vs ds →
    wpAny (model prog w) A (t vs) (OpAns K s z) (fun _ _ => False) s
end

section
variable {prog : Program} {w : World} {hT : Heap} {os0 : OsState} {sc : Scope} {env : Env} {σ : St} {kz z : Fz} {s s' : Shared}

theorem Var.mono {h h' : Heap} {m : Str → Option Value} {x : Str} {v : Value} (k : Le h.get? h'.get?) (r : Var sc env kz h m x v) : Var sc env kz h' m x v := by
  cases r with
  | loc a b => exact .loc a b
  | cell ca a e c => obtain ⟨o, ho, hd⟩ := c; exact .cell ca a e ⟨o, k _ _ ho, hd⟩
  | free ca o a b c d => exact .free ca o a b c d
/-- the heap grew; new frozen parts are new -/
theorem Sim.grow {z' : Fz} (S : Sim hT os0 sc env σ kz z s) (G : GrowH s z s' z') : Sim hT os0 sc env σ kz z' s' ∧ Grow kz z z' := by
  obtain ⟨hk, ⟨hz, hn⟩, hf, hg, ho⟩ := G
  have new : ∀ b o, s.heap.get? b = some o → z b = none → z' b = none := fun b o e n => by
    cases q : z' b with
    | none => rfl
    | some o' => rcases hn b o' q with r | r
                 · rw [n] at r; cases r
                 · rw [e] at r; cases r
  refine ⟨⟨S.keep.trans hk, hf, S.top, S.topz.trans hz, hg.trans S.gens, ho.trans S.os, ⟨S.priv.1, ?_⟩, fun x hx => ?_, S.cellD, ?_⟩, ⟨hz, fun b o e => ?_⟩⟩
  · obtain ⟨m, α, ⟨o, _, _, hL, _⟩, _⟩ := S.loc
    exact new _ _ hL S.priv.2
  · obtain ⟨ca, v, h1, ⟨o, h2, h3⟩, h4, h5⟩ := S.cellT x hx
    exact ⟨ca, v, h1, ⟨o, hk _ _ h2, h3⟩, h4, new _ _ h2 h5⟩
  · obtain ⟨m, α, hL, hv, hd⟩ := S.loc
    refine ⟨m, α, hL.keeps hk, fun x lv e => ?_, hd⟩
    obtain ⟨v, h1, h2⟩ := hv x lv e
    refine ⟨v, h1.mono hk, ?_⟩
    cases lv with
    | val d => exact Rep.mono hz h2
    | own p xs =>
      obtain ⟨e, ⟨vs, n, ho, hl⟩, a, b, c⟩ := h2
      exact ⟨e, ⟨vs, n, hk _ _ ho, hl.mono hz⟩, a, new _ _ ho b, c⟩
  · rcases hn b o e with r | r
    · exact .inl r
    · refine .inr ?_
      cases q : kz b with
      | none => rfl
      | some o' => rw [S.keep _ _ q] at r; cases r

theorem Sim.base (S : Sim hT os0 sc env σ kz z s) : Base hT os0 s z := ⟨S.topz, S.froz, S.gens, S.os⟩

theorem Sim.sub {σ' : St} (S : Sim hT os0 sc env σ kz z s) (h : Sub σ' σ) : Sim hT os0 sc env σ' kz z s := by
  obtain ⟨a, b, c, c', d, e, f, g, i, m, α, hL, hv, hd⟩ := S
  exact ⟨a, b, c, c', d, e, f, g, i, m, α, hL, fun x lv q => hv x lv (h.get q), fun x y i j xs ys p q => hd x y i j xs ys (h.get p) (h.get q)⟩

theorem GrowH.rfl (hf : Le z s.heap.get?) : GrowH s z s z := ⟨Le.rfl, Grow.rfl, hf, Eq.refl _, Eq.refl _⟩
theorem GrowH.toks (hf : Le z s.heap.get?) (t : Nat) : GrowH s z { s with toks := t } z := ⟨Le.rfl, Grow.rfl, hf, Eq.refl _, Eq.refl _⟩

theorem get_push {h : Heap} (o : Obj) : Le h.get? (h.push o).get? := fun _ _ e => Heap.get?_push_of_some o e
theorem get_new {h : Heap} : h.get? h.objs.size = none := by
  cases q : h.get? h.objs.size with
  | none => rfl
  | some o => exact absurd (Heap.lt_size q) (Nat.lt_irrefl _)
/-- a new frozen object -/
noncomputable def zput (z : Fz) (a : Addr) (o : Obj) : Fz := fun b => if b = a then some o else z b
theorem zput_le {a : Addr} {o : Obj} (h : z a = none) : Le z (zput z a o) := fun b o' e => by
  unfold zput; split
  · rename_i q; rw [q, h] at e; cases e
  · exact e
theorem zput_at {a : Addr} {o : Obj} : zput z a o a = some o := by simp [zput]
theorem GrowH.push (hf : Le z s.heap.get?) {o : Obj} (ho : o.isFreed = false) (t : Nat) :
    GrowH s z { s with heap := s.heap.push o, toks := t } (zput z s.heap.objs.size o) := by
  have hz : z s.heap.objs.size = none := by
    cases q : z s.heap.objs.size with
    | none => rfl
    | some o => have := hf _ _ q; rw [get_new] at this; cases this
  refine ⟨get_push o, ⟨zput_le hz, fun b o' e => ?_⟩, fun b o' e => ?_, Eq.refl _, Eq.refl _⟩
  · unfold zput at e; split at e
    · rename_i q; rw [q]; exact .inr get_new
    · exact .inl e
  · unfold zput at e; split at e
    · rename_i q; cases e; rw [q]; exact Heap.get?_push_size _ ho
    · exact get_push o _ _ (hf _ _ e)
end

section
variable {prog : Program} {w : World} {hT : Heap} {os0 : OsState} {sc : Scope} {k : Nat} {σ : St} {α β : Type}

theorem Wat.weaken {env : Env} {kz z z' : Fz} {R : Fz → α → β → Prop} {Q : β → St → Prop} {a : α} {s' : Shared} (g : Grow kz z z') (h : Wat hT os0 sc env kz z' R Q a s') : Wat hT os0 sc env kz z R Q a s' :=
  let ⟨b, σ', z'', g', S, r, q⟩ := h; ⟨b, σ', z'', g.trans g', S, r, q⟩

theorem W.mono {R : Fz → α → β → Prop} {t : Env → Sem α} {Q Q' : β → St → Prop} (h : W prog w hT os0 k sc R t σ Q) (hq : ∀ b σ', Q b σ' → Q' b σ') : W prog w hT os0 k sc R t σ Q' :=
  fun env A s kz z he hr hs => wpAny_mono (h env A s kz z he hr hs) (fun _ _ ⟨b, σ', z', g, S, r, q⟩ => ⟨b, σ', z', g, S, r, hq _ _ q⟩) fun _ _ x => x
theorem W.sub {R : Fz → α → β → Prop} {t : Env → Sem α} {Q : β → St → Prop} (σ' : St) (hσ : Sub σ' σ) (h : W prog w hT os0 k sc R t σ' Q) : W prog w hT os0 k sc R t σ Q :=
  fun env A s kz z he hr hs => h env A s kz z he hr (hs.sub hσ)
end

abbrev WE (prog : Program) (w : World) (hT : Heap) (os0 : OsState) (k : Nat) (sc : Scope) (e : Expr) (σ : St) (Q : D → St → Prop) : Prop := W prog w hT os0 k sc Rep (eval e) σ Q
abbrev WB (prog : Program) (w : World) (hT : Heap) (os0 : OsState) (k : Nat) (sc : Scope) (e : Expr) (σ : St) (Q : Bool → St → Prop) : Prop := W prog w hT os0 k sc (fun _ a b => a = b) (fun env => isTrue e env (eval e env)) σ Q
abbrev WA (prog : Program) (w : World) (hT : Heap) (os0 : OsState) (k : Nat) (sc : Scope) (pos : Pos) (es : List Expr) (σ : St) (Q : List D → St → Prop) : Prop := W prog w hT os0 k sc RepL (fun env => spliced (backTo pos (starEach es env))) σ Q

/-- how a statement ends -/
inductive Fl where
  | next | brk | cont
  | ret (d : D)
inductive RepF (z : Fz) : Flow → Fl → Prop where
  | next : RepF z .next .next
  | brk : RepF z .brk .brk
  | cont : RepF z .cont .cont
  | ret {v : Value} {d : D} : Rep z v d → RepF z (.ret v) (.ret d)
abbrev WX (prog : Program) (w : World) (hT : Heap) (os0 : OsState) (k : Nat) (sc : Scope) (st : Stmt) (σ : St) (Q : Fl → St → Prop) : Prop := W prog w hT os0 k sc RepF (exec st) σ Q
abbrev WXs (prog : Program) (w : World) (hT : Heap) (os0 : OsState) (k : Nat) (sc : Scope) (sts : List Stmt) (σ : St) (Q : Fl → St → Prop) : Prop := W prog w hT os0 k sc RepF (execs sts) σ Q

end Smith

end

section
namespace Smith

section
variable {prog : Program} {w : World} {hT : Heap} {os0 : OsState} {sc : Scope} {k : Nat} {σ : St} {α β γ δ : Type}

/-- one step, then the rest -/
theorem W.step {R : Fz → α → β → Prop} {t : Env → Sem α} {Q : β → St → Prop} {X : α → Shared → Prop} {env : Env} {A : Around} {s : Shared} {kz z : Fz}
    (h : W prog w hT os0 k sc R t σ Q) (he : EnvOk sc env) (hr : Room k A) (hs : Sim hT os0 sc env σ kz z s)
    (f : ∀ a b σ1 z1 s1, Grow kz z z1 → Sim hT os0 sc env σ1 kz z1 s1 → R z1 a b → Q b σ1 → X a s1) :
    wpAny (model prog w) A (t env) X (fun _ _ => False) s :=
  wpAny_mono (h env A s kz z he hr hs) (fun a s' ⟨b, σ', z', g, S, r, q⟩ => f a b σ' z' s' g S r q) fun _ _ x => x

/-- the rest's own end, from a grown z -/
theorem W.on {R : Fz → α → β → Prop} {t : Env → Sem α} {Q : β → St → Prop} {env : Env} {A : Around} {s : Shared} {kz z z0 : Fz}
    (h : W prog w hT os0 k sc R t σ Q) (he : EnvOk sc env) (hr : Room k A) (g : Grow kz z0 z) (hs : Sim hT os0 sc env σ kz z s) :
    wpAny (model prog w) A (t env) (Wat hT os0 sc env kz z0 R Q) (fun _ _ => False) s :=
  h.step he hr hs fun a b σ1 z1 s1 g1 S r q => ⟨b, σ1, z1, g.trans g1, S, r, q⟩

theorem Op.mono {j : Nat} {ds : List D} {t : List Value → Sem Value} {K K' : D → Prop} (h : Op prog w hT os0 j ds t K) (hk : ∀ d, K d → K' d) : Op prog w hT os0 j ds t K' :=
  fun A s z vs hr B r => wpAny_mono (h A s z vs hr B r) (fun _ _ ⟨d, z', a, b, c⟩ => ⟨d, z', a, b, hk _ c⟩) fun _ _ x => x

theorem Op.use {j : Nat} {ds : List D} {t : List Value → Sem Value} {K : D → Prop} {env : Env} {A : Around} {s : Shared} {kz z z0 : Fz} {vs : List Value} {Q : D → St → Prop}
    (h : Op prog w hT os0 j ds t K) (hr : Room j A) (g : Grow kz z0 z) (S : Sim hT os0 sc env σ kz z s) (r : RepL z vs ds) (q : ∀ d, K d → Q d σ) :
    wpAny (model prog w) A (t vs) (Wat hT os0 sc env kz z0 Rep Q) (fun _ _ => False) s :=
  wpAny_mono (h A s z vs hr S.base r) (fun v s' ⟨d, z', G, r', kd⟩ => by
    obtain ⟨S', g'⟩ := S.grow G
    exact ⟨d, σ, z', g.trans g', S', r', q d kd⟩) fun _ _ x => x

theorem rep1 {z : Fz} {v : Value} {d : D} (a : Rep z v d) : RepL z [v] [d] := .cons a .nil
theorem rep2 {z : Fz} {v u : Value} {d e : D} (a : Rep z v d) (b : Rep z u e) : RepL z [v, u] [d, e] := .cons a (.cons b .nil)

noncomputable def binT (op : Operator) : List Value → Sem Value
  | [a, b] => binaryOp op a b
  | _ => pure .none
noncomputable def inT (op : Operator) : List Value → Sem Value
  | [a, b] => inplaceOp op a b
  | _ => pure .none
noncomputable def cmpT (op : CmpOp) : List Value → Sem Value
  | [a, b] => compareOp op a b
  | _ => pure .none
noncomputable def unT (op : UnaryOp) : List Value → Sem Value
  | [a] => unaryOp op a
  | _ => pure .none

/-! ## side conditions that may be reckoned -/
noncomputable def kindE : Expr → Nat
  | .Starred .. => 1
  | .Slice .. => 2
  | .ListComp .. | .SetComp .. | .DictComp .. => 3
  | .Set .. => 4
  | .UnaryOp .Not .. | .BoolOp .. | .IfExp .. | .Compare .. => 5
  | .Tuple .. => 6
  | _ => 0
theorem star_cons {e : Expr} {rest : List Expr} (h : (kindE e != 1) = true) (env : Env) : starEach (e :: rest) env = (false, eval e env) :: starEach rest env := by
  cases e <;> first | rfl | cases h
theorem plain_test {e : Expr} (h : (kindE e != 5) = true) (env : Env) : isTrue e env (eval e env) = (do let v ← eval e env; standAt e.pos; holding [v] (truthy v)) := by
  cases e with
  | UnaryOp op x p => cases op <;> first | rfl | cases h
  | _ => first | rfl | cases h
theorem no_swap {e : Expr} (h : (kindE e != 3) = true) (t : Option Expr) (n : Nat) (env : Env) : swapsWith e t n env = pure false := by
  cases e <;> first | rfl | cases h
theorem no_swap1 {e : Expr} (h : (kindE e != 3) = true) (t : Expr) (n : Nat) (env : Env) : swapsWithSole [t] e n env = pure false := by
  simp only [swapsWithSole]; exact no_swap h _ _ env
theorem no_fold {e : Expr} (h : (kindE e != 4) = true) (env : Env) (x : Value) : foldedSetIterable e env x = pure x := by
  cases e <;> first | rfl | cases h
theorem no_slice {i : Expr} (h : (kindE i != 2) = true) (o : Value) (j : Int) (t : Tok) : subscripted i false o (.int j t) = operate [o, .int j t] (getItem o (.int j t)) := by
  cases i <;> first | rfl | cases h
noncomputable def plainL (es : List Expr) : Bool := es.all fun e => kindE e != 1
theorem plainL_head {e : Expr} {rest : List Expr} (h : plainL (e :: rest) = true) (env : Env) : starEach (e :: rest) env = (false, eval e env) :: starEach rest env :=
  star_cons (by simp only [plainL, List.all_cons, Bool.and_eq_true] at h; exact h.1) env
theorem plainL_tail {e : Expr} {rest : List Expr} (h : plainL (e :: rest) = true) : plainL rest = true := by simp only [plainL, List.all_cons, Bool.and_eq_true] at h; exact h.2
theorem plainL_all (p : Pos) (env : Env) : ∀ {es : List Expr}, plainL es = true → (backTo p (starEach es env)).any (·.1) = false
  | [], _ => rfl
  | e :: rest, h => by
    rw [plainL_head h]
    show (false || (backTo p (starEach rest env)).any (·.1)) = false
    rw [plainL_all p env (plainL_tail h)]; rfl
theorem plainL_any {e : Expr} {rest : List Expr} (h : plainL (e :: rest) = true) (p : Pos) (env : Env) : (backTo p (starEach rest env)).any (·.1) = false := plainL_all p env (plainL_tail h)
noncomputable def okN (x : Str) : Bool := !(x == ("__debug__" : Str)) && !(x == ("__classdict__" : Str))
noncomputable def look (σ : St) (x : Str) : Option LV := if okN x then σ.lookup x else none
theorem look_at {σ : St} {x : Str} {l : LV} (h : look σ x = some l) : σ.lookup x = some l ∧ (x == ("__debug__" : Str)) = false ∧ (x == ("__classdict__" : Str)) = false := by
  unfold look at h
  split at h
  · rename_i q
    simp only [okN, Bool.and_eq_true, Bool.not_eq_true'] at q
    exact ⟨h, q.1, q.2⟩
  · cases h
noncomputable def gk (sc : Scope) (x : Str) : Bool := (match sc.names.lookup x with | some .globalImplicit => true | _ => false) && !(x == ("__debug__" : Str))
theorem gk_at {sc : Scope} {x : Str} (h : gk sc x = true) : sc.names.lookup x = some .globalImplicit ∧ (x == ("__debug__" : Str)) = false := by
  simp only [gk, Bool.and_eq_true, Bool.not_eq_true'] at h
  obtain ⟨h1, h2⟩ := h
  split at h1
  · exact ⟨by assumption, h2⟩
  · cases h1
noncomputable def varB (sc : Scope) (x : Str) : Bool := match sc.names.lookup x with | some .local => true | some .cell => true | _ => false
theorem varB_at {sc : Scope} {x : Str} (h : varB sc x = true) : sc.names.lookup x = some .local ∨ sc.names.lookup x = some .cell := by
  unfold varB at h
  split at h
  · exact .inl (by assumption)
  · exact .inr (by assumption)
  · cases h

/-! ## expressions -/
/-! continuations without lambdas -/
inductive KB1 (Q : Bool → St → Prop) : D → St → Prop where
  | mk {b : Bool} {σ : St} : Q b σ → KB1 Q (.bool b) σ
inductive KInt (Q : Int → St → Prop) : D → St → Prop where
  | mk {b : Int} {σ : St} : Q b σ → KInt Q (.int b) σ
inductive KL (Q : List D → St → Prop) : D → St → Prop where
  | mk {b : List D} {σ : St} : Q b σ → KL Q (.lst b) σ
section
variable (prog : Program) (w : World) (hT : Heap) (os0 : OsState) (sc : Scope) (k : Nat)
abbrev KAt {α : Type} (Q : α → St → Prop) (σ : St) : α → Prop := fun d => Q d σ
abbrev KB (Q : Bool → St → Prop) (σ : St) : D → Prop := fun d => KB1 Q d σ
abbrev KOp2 (T : List Value → Sem Value) (d1 : D) (Q : D → St → Prop) : D → St → Prop := fun d2 σ2 => Op prog w hT os0 0 [d1, d2] T (KAt Q σ2)
abbrev KOp1 (T : List Value → Sem Value) (r : Expr) (Q : D → St → Prop) : D → St → Prop := fun d1 σ1 => WE prog w hT os0 k sc r σ1 (KOp2 prog w hT os0 T d1 Q)
abbrev KBp2 (T : List Value → Sem Value) (d1 : D) (Q : Bool → St → Prop) : D → St → Prop := fun d2 σ2 => Op prog w hT os0 0 [d1, d2] T (KB Q σ2)
abbrev KBp1 (T : List Value → Sem Value) (r : Expr) (Q : Bool → St → Prop) : D → St → Prop := fun d1 σ1 => WE prog w hT os0 k sc r σ1 (KBp2 prog w hT os0 T d1 Q)
abbrev KUn (T : List Value → Sem Value) (Q : D → St → Prop) : D → St → Prop := fun d1 σ1 => Op prog w hT os0 0 [d1] T (KAt Q σ1)
abbrev KAs2 (d : D) (Q : List D → St → Prop) : List D → St → Prop := fun ds σ2 => Q (d :: ds) σ2
abbrev KAs1 (pos : Pos) (rest : List Expr) (Q : List D → St → Prop) : D → St → Prop := fun d σ1 => WA prog w hT os0 k sc pos rest σ1 (KAs2 d Q)
abbrev KCl (T : List Value → Sem Value) (Q : D → St → Prop) : List D → St → Prop := fun ds σ2 => Op prog w hT os0 0 ds T (KAt Q σ2)
abbrev KAnd (y : Expr) (Q : Bool → St → Prop) : Bool → St → Prop := fun b σ1 => (b = false → Q false σ1) ∧ (b = true → WB prog w hT os0 k sc y σ1 Q)
abbrev KTup (Q : D → St → Prop) : List D → St → Prop := fun ds σ1 => ds.length ≤ sizeLine ∧ Q (.tup ds) σ1
abbrev KLst (Q : D → St → Prop) : List D → St → Prop := fun ds σ1 => ds.length ≤ sizeLine ∧ Q (.lst ds) σ1
end
theorem WE.int {i : Int} {n pos} {Q : D → St → Prop} (h : Q (.int i) σ) : WE prog w hT os0 k sc (.Constant (.int i) n pos) σ Q :=
  fun _ _ s _ z _ _ hs => wpAny_Constant_int (by
    obtain ⟨S, g⟩ := hs.grow (GrowH.toks hs.froz (s.toks + 1))
    exact ⟨_, _, z, g, S, .int _ _, h⟩)
theorem WE.bool {b : Bool} {n pos} {Q : D → St → Prop} (h : Q (.bool b) σ) : WE prog w hT os0 k sc (.Constant (.bool b) n pos) σ Q :=
  fun _ _ _ _ z _ _ hs => Constant_bool ⟨_, _, z, Grow.rfl, hs, .bool _, h⟩
theorem WE.none {n pos} {Q : D → St → Prop} (h : Q .none σ) : WE prog w hT os0 k sc (.Constant .none n pos) σ Q :=
  fun _ _ _ _ z _ _ hs => Constant_none ⟨_, _, z, Grow.rfl, hs, .none, h⟩

theorem load_var {env : Env} {M : Model} {A : Around} {E : Value → Shared → Prop} {s : Shared} {kz : Fz} {m : Str → Option Value} {x : Str} {v : Value} {Q : Value → Shared → Prop}
    (he : EnvOk sc env) (hk : Le kz s.heap.get?) (hm : s.heap.Ns env.locals m) (hv : Var sc env kz s.heap m x v) (h : Q v s) (hn : (x == ("__classdict__" : Str)) = false) :
    wpAny M A (loadName env x) Q E s := by
  have kd : env.scope.kind = .function := he.scope ▸ he.kind
  rcases hv with ⟨a, b⟩ | ⟨ca, a, b, c⟩ | ⟨ca, o, a, b, c, d⟩
  · exact wpAny_loadName_local kd (by show env.scope.names.lookup x = _; rw [he.scope]; exact a) hm b h
  · exact wpAny_loadName_cell kd (by show env.scope.names.lookup x = _; rw [he.scope]; exact a) b c h
  · exact wpAny_loadName_free kd (by show env.scope.names.lookup x = _; rw [he.scope]; exact a) b ⟨o, hk _ _ c, d⟩ h hn

theorem WE.name {x : Str} {pos} {d : D} {Q : D → St → Prop} (hx : look σ x = some (.val d)) (h : Q d σ) :
    WE prog w hT os0 k sc (.Name x pos) σ Q := by
  intro env A s kz z he hr hs
  obtain ⟨hx, hd, hn⟩ := look_at hx
  obtain ⟨m, α, hm, hv, _⟩ := hs.loc
  obtain ⟨v, h1, h2⟩ := hv x _ hx
  exact wpAny_Name (load_var he hs.keep hm h1 ⟨d, σ, z, Grow.rfl, hs, h2, h⟩ hn) hd

/-- a name of the module or a built-in one -/
inductive TopVal (hT : Heap) (x : Str) (d : D) : Prop where
  | mk (mg mb : Str → Option Value) (v : Value) : hT.Ns mainGlobals mg → hT.Ns builtinsNs mb → (mg x = some v ∨ (mg x = none ∧ mb x = some v)) → Rep hT.get? v d → TopVal hT x d
/-- what stands at the top may be read in every frozen part -/
theorem WE.glob {x : Str} {pos} {d : D} {Q : D → St → Prop} (ht : TopVal hT x d) (hx : gk sc x = true) (h : Q d σ) :
    WE prog w hT os0 k sc (.Name x pos) σ Q := by
  intro env A s kz z he hr hs
  obtain ⟨hx, hd⟩ := gk_at hx
  obtain ⟨mg, mb, v, hg, hb, hv, hrep⟩ := ht
  have tk : Le hT.get? s.heap.get? := hs.top.trans hs.keep
  have fin : Wat hT os0 sc env kz z Rep Q v s := ⟨d, σ, z, Grow.rfl, hs, hrep.mono hs.topz, h⟩
  refine Name_function_global (he.scope ▸ he.kind) (by show env.scope.names.lookup x = _; rw [he.scope]; exact hx) ?_ hd
  rcases hv with hv | ⟨h1, h2⟩
  · exact loadGlobal_global (env := env) (by rw [he.glob]; exact hg.keeps tk) hv fin
  · exact loadGlobal_builtin (env := env) (by rw [he.glob]; exact hg.keeps tk) h1 (by rw [he.blt]; exact hb.keeps tk) h2 fin

theorem WE.binop {l r : Expr} {op : Operator} {pos} {Q : D → St → Prop}
    (h : WE prog w hT os0 k sc l σ (KOp1 prog w hT os0 sc k (binT op) r Q)) :
    WE prog w hT os0 k sc (.BinOp l op r pos) σ Q := fun env A s kz z he hr hs =>
  wpAny_BinOp (h.step he hr hs fun v1 d1 σ1 z1 s1 g1 S1 r1 h1 => h1.step he hr S1 fun v2 d2 σ2 z2 s2 g2 S2 r2 h2 =>
    h2.use (hr.le (Nat.zero_le _)) (g1.trans g2) S2 (rep2 (r1.mono g2.1) r2) fun _ q => q)
theorem WE.cmp {l r : Expr} {op : CmpOp} {pos} {Q : D → St → Prop}
    (hm : behindInMarks op r = false)
    (h : WE prog w hT os0 k sc l σ (KOp1 prog w hT os0 sc k (cmpT op) r Q)) :
    WE prog w hT os0 k sc (.Compare l [op] [r] pos) σ Q := fun env A s kz z he hr hs =>
  wpAny_Compare1 (h.step he hr hs fun v1 d1 σ1 z1 s1 g1 S1 r1 h1 => h1.step he hr S1 fun v2 d2 σ2 z2 s2 g2 S2 r2 h2 =>
    h2.use (hr.le (Nat.zero_le _)) (g1.trans g2) S2 (rep2 (r1.mono g2.1) r2) fun _ q => q) hm
theorem rep_bool {z : Fz} {v : Value} {b : Bool} (h : Rep z v (.bool b)) : v = .bool b := by cases h; rfl
theorem rep_int {z : Fz} {v : Value} {i : Int} (h : Rep z v (.int i)) : ∃ t, v = .int i t := by cases h; exact ⟨_, rfl⟩
theorem WB.cmp {l r : Expr} {op : CmpOp} {pos} {Q : Bool → St → Prop}
    (hm : behindInMarks op r = false)
    (h : WE prog w hT os0 k sc l σ (KBp1 prog w hT os0 sc k (cmpT op) r Q)) :
    WB prog w hT os0 k sc (.Compare l [op] [r] pos) σ Q := fun env A s kz z he hr hs =>
  wpAny_isTrue_Compare1 (h.step he hr hs fun v1 d1 σ1 z1 s1 g1 S1 r1 h1 => h1.step he hr S1 fun v2 d2 σ2 z2 s2 g2 S2 r2 h2 =>
    wpAny_mono (h2.use (hr.le (Nat.zero_le _)) (g1.trans g2) S2 (rep2 (r1.mono g2.1) r2) (Q := KB1 Q) fun _ q => q) (fun c s3 ⟨d, σ3, z3, g3, S3, r3, q⟩ => by
      cases q with
      | mk q => rw [rep_bool r3]; exact wpAny_truthy_bool ⟨_, σ3, z3, g3, S3, rfl, q⟩) fun _ _ x => x) hm
theorem WE.unop {x : Expr} {op : UnaryOp} {pos} {Q : D → St → Prop}
    (h : WE prog w hT os0 k sc x σ (KUn prog w hT os0 (unT op) Q)) :
    WE prog w hT os0 k sc (.UnaryOp op x pos) σ Q := fun env A s kz z he hr hs =>
  wpAny_UnaryOp (h.step he hr hs fun v1 d1 σ1 z1 s1 g1 S1 r1 h1 => h1.use (hr.le (Nat.zero_le _)) g1 S1 (rep1 r1) fun _ q => q)
/-- the truth of a bool -/
theorem WB.plain {e : Expr} {Q : Bool → St → Prop} (he : (kindE e != 5) = true)
    (h : WE prog w hT os0 k sc e σ (KB1 Q)) : WB prog w hT os0 k sc e σ Q := fun env A s kz z he' hr hs =>
  isTrue_plain (h.step he' hr hs fun v1 d1 σ1 z1 s1 g1 S1 r1 q => by
    cases q with
    | mk q => rw [rep_bool r1]; exact wpAny_truthy_bool ⟨_, σ1, z1, g1, S1, rfl, q⟩) (plain_test he env)
theorem WB.and {x y : Expr} {pos} {Q : Bool → St → Prop} (h : WB prog w hT os0 k sc x σ (KAnd prog w hT os0 sc k y Q)) :
    WB prog w hT os0 k sc (.BoolOp .And [x, y] pos) σ Q := fun env A s kz z he hr hs =>
  isTrue_and (whole := eval (.BoolOp .And [x, y] pos) env) (h.step he hr hs fun b b' σ1 z1 s1 g1 S1 r1 q => by
    subst r1
    cases b with
    | false => exact ⟨false, σ1, z1, g1, S1, rfl, q.1 rfl⟩
    | true => exact isTrue_and (whole := eval (.BoolOp .And [x, y] pos) env) ((q.2 rfl).step he hr S1 fun c c' σ2 z2 s2 g2 S2 r2 q2 => by
        subst r2
        cases c with
        | false => exact ⟨false, σ2, z2, g1.trans g2, S2, rfl, q2⟩
        | true => exact isTrue_and_nil ⟨true, σ2, z2, g1.trans g2, S2, rfl, q2⟩))
theorem WE.and {x y : Expr} {pos} {Q : D → St → Prop} (h : WE prog w hT os0 k sc x σ (KB1 fun b σ1 => (b = false → Q (.bool false) σ1) ∧ (b = true → WE prog w hT os0 k sc y σ1 Q))) :
    WE prog w hT os0 k sc (.BoolOp .And [x, y] pos) σ Q := fun env A s kz z he hr hs =>
  BoolOp_and (h.step he hr hs fun v d σ1 z1 s1 g1 S1 r1 q => by
    cases q with
    | @mk b σ q =>
      rw [rep_bool r1]
      refine wpAny_truthy_bool ?_
      cases b with
      | false => exact ⟨_, σ1, z1, g1, S1, .bool _, q.1 rfl⟩
      | true => exact BoolOp_one ((q.2 rfl).on he hr g1 S1))
theorem WE.ifexp {t b o : Expr} {pos} {Q : D → St → Prop} (h : WB prog w hT os0 k sc t σ fun c σ1 => (c = true → WE prog w hT os0 k sc b σ1 Q) ∧ (c = false → WE prog w hT os0 k sc o σ1 Q)) :
    WE prog w hT os0 k sc (.IfExp t b o pos) σ Q := fun env A s kz z he hr hs =>
  wpAny_IfExp (h.step he hr hs fun c c' σ1 z1 s1 g1 S1 r1 q => by
    subst r1
    cases c with
    | false => exact (q.2 rfl).on he hr g1 S1
    | true => exact (q.1 rfl).on he hr g1 S1)

/-! ## arguments, calls -/
theorem WA.nil {pos} {Q : List D → St → Prop} (h : Q [] σ) : WA prog w hT os0 k sc pos [] σ Q := fun env A s kz z he hr hs =>
  args_nil ⟨_, σ, z, Grow.rfl, hs, .nil, h⟩
theorem WA.cons {e : Expr} {rest : List Expr} {pos} {Q : List D → St → Prop}
    (hst : (kindE e != 1) = true)
    (h : WE prog w hT os0 k sc e σ (KAs1 prog w hT os0 sc k pos rest Q)) :
    WA prog w hT os0 k sc pos (e :: rest) σ Q := fun env A s kz z he hr hs =>
  args_cons (h.step he hr hs fun v d σ1 z1 s1 g1 S1 r1 h1 => h1.step he hr S1 fun vs ds σ2 z2 s2 g2 S2 r2 q =>
    ⟨d :: ds, σ2, z2, g1.trans g2, S2, .cons (r1.mono g2.1) r2, q⟩) (star_cons hst env)
noncomputable def callT (f : Value) : List Value → Sem Value := fun vs => call f vs
inductive IsFn (hT : Heap) (a : Addr) : Prop where
  | mk (o : Obj) (fd : FuncData) : hT.get? a = some o → o.data = .func fd → IsFn hT a
theorem WE.callBG {x : Str} {e : Expr} {rest : List Expr} {p pos} {id : String} {Q : D → St → Prop} (ht : TopVal hT x (.bi id)) (hx : gk sc x = true) (hst : plainL (e :: rest) = true)
    (h : WA prog w hT os0 k sc pos (e :: rest) σ (KCl prog w hT os0 (_root_.Smith.callT (.builtin id)) Q)) :
    WE prog w hT os0 k sc (.Call (.Name x p) (e :: rest) [] pos) σ Q := fun env A s kz z he hr hs =>
  Call_ ((WE.glob (Q := fun d σ1 => d = .bi id ∧ σ1 = σ) ht hx ⟨rfl, rfl⟩).step he hr hs fun v d σ1 z1 s1 g1 S1 r1 ⟨e1, e2⟩ => by
    subst e1 e2
    cases r1
    exact callWith_builtin1 (h.step he hr S1 fun vs ds σ2 z2 s2 g2 S2 r2 h2 => h2.use (hr.le (Nat.zero_le _)) (g1.trans g2) S2 r2 fun _ q => q) (plainL_head hst env) (plainL_any hst _ env))
theorem WE.callTG {x : Str} {e : Expr} {rest : List Expr} {p pos} {T : String} {Q : D → St → Prop} (ht : TopVal hT x (.ty T)) (hx : gk sc x = true) (hst : plainL (e :: rest) = true)
    (h : WA prog w hT os0 k sc pos (e :: rest) σ (KCl prog w hT os0 (_root_.Smith.callT (.type T)) Q)) :
    WE prog w hT os0 k sc (.Call (.Name x p) (e :: rest) [] pos) σ Q := fun env A s kz z he hr hs =>
  Call_ ((WE.glob (Q := fun d σ1 => d = .ty T ∧ σ1 = σ) ht hx ⟨rfl, rfl⟩).step he hr hs fun v d σ1 z1 s1 g1 S1 r1 ⟨e1, e2⟩ => by
    subst e1 e2
    cases r1
    exact PyProof.Rows.callWith_type1 (h.step he hr S1 fun vs ds σ2 z2 s2 g2 S2 r2 h2 => h2.use (hr.le (Nat.zero_le _)) (g1.trans g2) S2 r2 fun _ q => q) (plainL_head hst env) (plainL_any hst _ env))

/-! ## displays -/
theorem sim_new {σ : St} {env : Env} {kz z : Fz} {s : Shared} (S : Sim hT os0 sc env σ kz z s) (o : Obj) (ho : o.isFreed = false) (t : Nat) :
    Sim hT os0 sc env σ kz (zput z s.heap.objs.size o) { s with heap := s.heap.push o, toks := t } ∧ Grow kz z (zput z s.heap.objs.size o) := S.grow (GrowH.push S.froz ho t)
theorem WE.tuple {es : List Expr} {n pos} {Q : D → St → Prop} (h : WA prog w hT os0 k sc pos es σ (KTup Q)) :
    WE prog w hT os0 k sc (.Tuple es n pos) σ Q := fun env A s kz z he hr hs =>
  Tuple_ (h.step he hr hs fun vs ds σ1 z1 s1 g1 S1 r1 ⟨hl, q⟩ => wpAny_newObj_type (by
    obtain ⟨S2, g2⟩ := sim_new S1 (tobj vs 0) rfl s1.toks
    exact ⟨_, σ1, _, g1.trans g2, S2, .tup zput_at (r1.mono g2.1), q⟩) (by show vs.toArray.size ≤ sizeLine; rw [List.size_toArray, r1.length]; exact hl))
theorem WE.list {es : List Expr} {pos} {Q : D → St → Prop} (h : WA prog w hT os0 k sc pos es σ (KLst Q)) :
    WE prog w hT os0 k sc (.List es pos) σ Q := fun env A s kz z he hr hs =>
  List_ (h.step he hr hs fun vs ds σ1 z1 s1 g1 S1 r1 ⟨hl, q⟩ => wpAny_newObj_type (by
    obtain ⟨S2, g2⟩ := sim_new S1 (lobj vs 0) rfl s1.toks
    exact ⟨_, σ1, _, g1.trans g2, S2, .lst zput_at (r1.mono g2.1), q⟩) (by show vs.toArray.size ≤ sizeLine; rw [List.size_toArray, r1.length]; exact hl))

/-! ## ints -/
theorem repl1 {z : Fz} {vs : List Value} {d : D} (h : RepL z vs [d]) : ∃ v, vs = [v] ∧ Rep z v d := by
  cases h with | cons a b => cases b; exact ⟨_, rfl, a⟩
theorem repl2 {z : Fz} {vs : List Value} {d e : D} (h : RepL z vs [d, e]) : ∃ v u, vs = [v, u] ∧ Rep z v d ∧ Rep z u e := by
  cases h with | cons a b => obtain ⟨u, rfl, r⟩ := repl1 b; exact ⟨_, u, rfl, a, r⟩
theorem Op.of_int2 {a b r : Int} {t : List Value → Sem Value} {K : D → Prop}
    (hyp : ∀ (A : Around) (s : Shared) (x y : Tok) (Q : Value → Shared → Prop), Q (.int r s.toks) { s with toks := s.toks + 1 } → wpAny (model prog w) A (t [.int a x, .int b y]) Q (fun _ _ => False) s)
    (h : K (.int r)) : Op prog w hT os0 0 [.int a, .int b] t K := by
  intro A s z vs hr B rr
  obtain ⟨v, u, rfl, r1, r2⟩ := repl2 rr
  obtain ⟨x, rfl⟩ := rep_int r1
  obtain ⟨y, rfl⟩ := rep_int r2
  exact hyp A s _ _ _ ⟨_, z, GrowH.toks B.froz _, .int _ _, h⟩
theorem Op.of_cmp2 {a b : Int} {r : Bool} {t : List Value → Sem Value} {K : D → Prop}
    (hyp : ∀ (A : Around) (s : Shared) (x y : Tok) (Q : Value → Shared → Prop), Q (.bool r) s → wpAny (model prog w) A (t [.int a x, .int b y]) Q (fun _ _ => False) s)
    (h : K (.bool r)) : Op prog w hT os0 0 [.int a, .int b] t K := by
  intro A s z vs hr B rr
  obtain ⟨v, u, rfl, r1, r2⟩ := repl2 rr
  obtain ⟨x, rfl⟩ := rep_int r1
  obtain ⟨y, rfl⟩ := rep_int r2
  exact hyp A s _ _ _ ⟨_, z, GrowH.rfl B.froz, .bool _, h⟩
section
variable {a b : Int} {K : D → Prop}
theorem op_add (h : K (.int (a + b))) : Op prog w hT os0 0 [.int a, .int b] (binT .Add) K := .of_int2 (fun _ _ _ _ _ q => add_int q) h
theorem op_sub (h : K (.int (a - b))) : Op prog w hT os0 0 [.int a, .int b] (binT .Sub) K := .of_int2 (fun _ _ _ _ _ q => sub_int q) h
theorem op_mul (hm : IntMulOk a b) (h : K (.int (a * b))) : Op prog w hT os0 0 [.int a, .int b] (binT .Mult) K := .of_int2 (fun _ _ _ _ _ q => mul_int q hm) h
theorem op_floordiv (hb : b ≠ 0) (hs : b.natAbs < 1073741824) (h : K (.int (a.fdiv b))) : Op prog w hT os0 0 [.int a, .int b] (binT .FloorDiv) K := .of_int2 (fun _ _ _ _ _ q => floordiv_int hb q (Or.inl (PyProof.noPylong_small hs))) h
theorem op_mod (hb : b ≠ 0) (h : K (.int (a.fmod b))) : Op prog w hT os0 0 [.int a, .int b] (binT .Mod) K := .of_int2 (fun _ _ _ _ _ q => mod_int' hb q) h
theorem op_and (h : K (.int (Builtin.bitAnd a b))) : Op prog w hT os0 0 [.int a, .int b] (binT .BitAnd) K := .of_int2 (fun _ _ _ _ _ q => and_int q) h
theorem op_or (h : K (.int (Builtin.bitOr a b))) : Op prog w hT os0 0 [.int a, .int b] (binT .BitOr) K := .of_int2 (fun _ _ _ _ _ q => or_int q) h
theorem op_shl (hb : 0 ≤ b) (hb2 : b ≤ 1000000) (ha : a.natAbs < 2 ^ 64) (h : K (.int (a * 2 ^ b.toNat))) : Op prog w hT os0 0 [.int a, .int b] (binT .LShift) K := .of_int2 (fun _ _ _ _ _ q => lshift_int_small hb hb2 ha q) h
theorem op_shr (hb : 0 ≤ b) (h : K (.int (a.fdiv (2 ^ b.toNat)))) : Op prog w hT os0 0 [.int a, .int b] (binT .RShift) K := .of_int2 (fun _ _ _ _ _ q => rshift_int hb q) h
theorem op_pow (hb : 0 ≤ b) (hb2 : b ≤ 1000000) (ha : a.natAbs < 2 ^ 64) (h : K (.int (a ^ b.toNat))) : Op prog w hT os0 0 [.int a, .int b] (binT .Pow) K := .of_int2 (fun _ _ _ _ _ q => pow_int_small hb hb2 ha q) h
theorem op_iadd (h : K (.int (a + b))) : Op prog w hT os0 0 [.int a, .int b] (inT .Add) K := .of_int2 (fun _ _ _ _ _ q => iadd_int q) h
theorem op_isub (h : K (.int (a - b))) : Op prog w hT os0 0 [.int a, .int b] (inT .Sub) K := .of_int2 (fun _ _ _ _ _ q => isub_int q) h
theorem op_imod (hb : b ≠ 0) (h : K (.int (a.fmod b))) : Op prog w hT os0 0 [.int a, .int b] (inT .Mod) K := .of_int2 (fun _ _ _ _ _ q => imod_int hb q) h
theorem op_ior (h : K (.int (Builtin.bitOr a b))) : Op prog w hT os0 0 [.int a, .int b] (inT .BitOr) K := .of_int2 (fun _ _ _ _ _ q => ior_int q) h
theorem op_ishr (hb : 0 ≤ b) (h : K (.int (a.fdiv (2 ^ b.toNat)))) : Op prog w hT os0 0 [.int a, .int b] (inT .RShift) K := .of_int2 (fun _ _ _ _ _ q => irshift_int hb q) h
theorem op_eq (h : K (.bool (a == b))) : Op prog w hT os0 0 [.int a, .int b] (cmpT .Eq) K := .of_cmp2 (fun _ _ _ _ _ q => eq_int q) h
theorem op_ne (h : K (.bool (a != b))) : Op prog w hT os0 0 [.int a, .int b] (cmpT .NotEq) K := .of_cmp2 (fun _ _ _ _ _ q => ne_int q) h
theorem op_lt (h : K (.bool (decide (a < b)))) : Op prog w hT os0 0 [.int a, .int b] (cmpT .Lt) K := .of_cmp2 (fun _ _ _ _ _ q => lt_int q) h
theorem op_le (h : K (.bool (decide (a ≤ b)))) : Op prog w hT os0 0 [.int a, .int b] (cmpT .LtE) K := .of_cmp2 (fun _ _ _ _ _ q => le_int q) h
theorem op_gt (h : K (.bool (decide (b < a)))) : Op prog w hT os0 0 [.int a, .int b] (cmpT .Gt) K := .of_cmp2 (fun _ _ _ _ _ q => gt_int q) h
theorem op_ge (h : K (.bool (decide (b ≤ a)))) : Op prog w hT os0 0 [.int a, .int b] (cmpT .GtE) K := .of_cmp2 (fun _ _ _ _ _ q => ge_int q) h
theorem op_neg (h : K (.int (-a))) : Op prog w hT os0 0 [.int a] (unT .USub) K := by
  intro A s z vs hr B rr
  obtain ⟨v, rfl, r⟩ := repl1 rr
  obtain ⟨x, rfl⟩ := rep_int r
  exact neg_int ⟨_, z, GrowH.toks B.froz _, .int _ _, h⟩
theorem op_not {c : Bool} (h : K (.bool (!c))) : Op prog w hT os0 0 [.bool c] (unT .Not) K := by
  intro A s z vs hr B rr
  obtain ⟨v, rfl, r⟩ := repl1 rr
  obtain rfl := rep_bool r
  exact not_of (wpAny_truthy_bool ⟨_, z, GrowH.rfl B.froz, .bool _, h⟩)
theorem op_eqb {c d : Bool} (h : K (.bool (c == d))) : Op prog w hT os0 0 [.bool c, .bool d] (cmpT .Eq) K := by
  intro A s z vs hr B rr
  obtain ⟨v, u, rfl, r1, r2⟩ := repl2 rr
  obtain rfl := rep_bool r1
  obtain rfl := rep_bool r2
  exact eq_bool ⟨_, z, GrowH.rfl B.froz, .bool _, h⟩
theorem op_neb {c d : Bool} (h : K (.bool (c != d))) : Op prog w hT os0 0 [.bool c, .bool d] (cmpT .NotEq) K := by
  intro A s z vs hr B rr
  obtain ⟨v, u, rfl, r1, r2⟩ := repl2 rr
  obtain rfl := rep_bool r1
  obtain rfl := rep_bool r2
  exact ne_bool ⟨_, z, GrowH.rfl B.froz, .bool _, h⟩
end
end
end Smith

end

section
namespace Smith

noncomputable def kput (kz : Fz) (a : Addr) (o : Obj) : Fz := zput kz a o
theorem zput_ne {z : Fz} {a b : Addr} {o : Obj} (h : b ≠ a) : zput z a o b = z b := by simp [zput, h]
theorem kput_ne {z : Fz} {a b : Addr} {o : Obj} (h : b ≠ a) : kput z a o b = z b := zput_ne h
theorem kput_none {z : Fz} {a b : Addr} {o : Obj} (h : kput z a o b = none) : b ≠ a ∧ z b = none := by
  by_cases e : b = a
  · subst e; simp [kput, zput] at h
  · exact ⟨e, by rw [kput_ne e] at h; exact h⟩

section
variable {hT : Heap} {os0 : OsState} {sc : Scope} {env : Env} {σ : St} {kz z : Fz} {s : Shared}

theorem list_not_dict {h : Heap} {a b : Addr} {vs : List Value} {n : Nat} {m : Str → Option Value} (e : h.get? a = some (lobj vs n)) (hn : h.Ns b m) : a ≠ b := by
  rintro rfl
  obtain ⟨o, es, ep, ho, hd, _⟩ := hn
  rw [e] at ho; cases ho; cases hd
theorem list_not_cell {h : Heap} {a b : Addr} {vs : List Value} {n : Nat} {v : Option Value} (e : h.get? a = some (lobj vs n)) (hn : h.IsCell b v) : a ≠ b := by
  rintro rfl
  obtain ⟨o, ho, hd⟩ := hn
  rw [e] at ho; cases ho; cases hd
theorem cell_not_dict {h : Heap} {a b : Addr} {v : Option Value} {m : Str → Option Value} (hc : h.IsCell a v) (hn : h.Ns b m) : a ≠ b := by
  rintro rfl
  obtain ⟨o, es, ep, ho, hd, _⟩ := hn
  obtain ⟨o', ho', hd'⟩ := hc
  rw [ho] at ho'; cases ho'; rw [hd] at hd'; cases hd'
theorem ns_fun {h : Heap} {a : Addr} {m m' : Str → Option Value} (h1 : h.Ns a m) (h2 : h.Ns a m') : m = m' := by
  obtain ⟨o, es, ep, ho, hd, _, hf⟩ := h1
  obtain ⟨o', es', ep', ho', hd', _, hf'⟩ := h2
  rw [ho] at ho'; cases ho'; rw [hd] at hd'; cases hd'
  exact funext fun y => (hf y).symm.trans (hf' y)

/-- one private address is written (or new objects come): the rest stands -/
theorem Sim.touch {σ' : St} {p : Addr} {h' : Heap} {t : Nat} {kz' : Fz} (S : Sim hT os0 sc env σ kz z s) (hk : Le kz' kz) (ht : Le hT.get? kz') (hp : kz' p = none) (hz : z p = none)
    (hs : ∀ b o, b ≠ p → s.heap.get? b = some o → h'.get? b = some o)
    (hc : ∀ x ca v, sc.names.lookup x = some .cell → env.cells.lookup x = some ca → s.heap.IsCell ca v → ∃ v', h'.IsCell ca v')
    (hl : Locals sc env σ' kz' z h') :
    Sim hT os0 sc env σ' kz' z { s with heap := h', toks := t } := by
  have nk : ∀ {b}, kz b = none → kz' b = none := fun {b} e => by
    cases q : kz' b with
    | none => rfl
    | some o => rw [hk _ _ q] at e; cases e
  refine ⟨fun b o e => hs b o (fun q => by rw [q, hp] at e; cases e) (S.keep _ _ (hk _ _ e)), fun b o e => hs b o (fun q => by rw [q, hz] at e; cases e) (S.froz _ _ e), ht, S.topz, S.gens, S.os, ⟨nk S.priv.1, S.priv.2⟩, fun x hx => ?_, S.cellD, hl⟩
  obtain ⟨ca, v, a1, a2, a3, a4⟩ := S.cellT x hx
  obtain ⟨v', a5⟩ := hc x ca v hx a1 a2
  exact ⟨ca, v', a1, a5, nk a3, a4⟩

/-- what may be stored: data, or a list of one's own (its address kept apart till now) -/
inductive SlotOwn (kz z : Fz) (v : Value) (kz1 : Fz) (p : Option Addr) (xs : List D) : Prop where
  | mk : p = none → (a : Addr) → (vs : List Value) → (n : Nat) → v = .ref a → kz a = none → z a = none → RepL z vs xs → kz1 = kput kz a (lobj vs n) → SlotOwn kz z v kz1 p xs
def Slot (kz z : Fz) (v : Value) (kz1 : Fz) : LV → Prop
  | .val d => Rep z v d ∧ kz1 = kz
  | .own p xs => SlotOwn kz z v kz1 p xs

theorem Slot.le {v : Value} {kz1 : Fz} {lv : LV} (h : Slot kz z v kz1 lv) : Le kz kz1 := by
  cases lv with
  | val d => rw [h.2]; exact Le.rfl
  | own p xs =>
    obtain ⟨_, a, vs, n, _, hk, _, _, rfl⟩ := h
    exact zput_le hk

variable {M : Model} {A : Around} {E : Value → Shared → Prop}

theorem store_slotX {x : Str} {v : Value} {lv : LV} {kz1 : Fz} {Q : Unit → Shared → Prop} (he : EnvOk sc env) (S : Sim hT os0 sc env σ kz1 z s) (ht : Le hT.get? kz) (r : Slot kz z v kz1 lv)
    (hx : sc.names.lookup x = some .local ∨ sc.names.lookup x = some .cell) (h : ∀ s', Sim hT os0 sc env ((x, lv) :: σ) kz z s' → (sc.names.lookup x = some .local → ∀ b o, b ≠ env.locals → s.heap.get? b = some o → s'.heap.get? b = some o) → Q () s') : wpAny M A (storeName env x v) Q E s := by
  have kd : env.scope.kind = .function := he.scope ▸ he.kind
  have hle := r.le
  obtain ⟨m, α, h1, h2, h3⟩ := S.loc
  let α' : Str → Addr := fun y => if y = x then (match v with | .ref a => a | _ => 0) else α y
  have look : ∀ y l, ((x, lv) :: σ).lookup y = some l → (y = x ∧ l = lv) ∨ (y ≠ x ∧ σ.lookup y = some l) := fun y l e => by
    rw [List.lookup_cons] at e
    by_cases hy : y = x
    · subst hy; simp only [beq_self_eq_true] at e; cases e; exact .inl ⟨rfl, rfl⟩
    · rw [show (y == x) = false by simpa using hy] at e; exact .inr ⟨hy, e⟩
  -- the own names stay apart
  have apart : ∀ y y' p q xs ys, ((x, lv) :: σ).lookup y = some (.own p xs) → ((x, lv) :: σ).lookup y' = some (.own q ys) → α' y = α' y' → y = y' := by
    intro y y' p q xs ys e e' eq
    have key : ∀ y q ys, y ≠ x → σ.lookup y = some (.own q ys) → ∀ p xs, lv = .own p xs → α y ≠ (match v with | .ref a => a | _ => 0) := by
      intro y q ys hy ey p xs elv q'
      rw [elv] at r
      obtain ⟨_, a, vs, n, rfl, hk, _, _, rfl⟩ := r
      obtain ⟨u, _, _, _, c3, _⟩ := h2 y _ ey
      exact (kput_none c3).1 q'
    rcases look _ _ e with ⟨e1, e2⟩ | ⟨e1, e2⟩ <;> rcases look _ _ e' with ⟨f1, f2⟩ | ⟨f1, f2⟩
    · rw [e1, f1]
    · exfalso
      simp only [α', e1, if_true, f1, if_false] at eq
      exact key y' q ys f1 f2 p xs e2.symm eq.symm
    · exfalso
      simp only [α', e1, if_true, f1, if_false] at eq
      exact key y p xs e1 e2 q ys f2.symm eq
    · simp only [α', e1, f1, if_false] at eq
      exact h3 y y' p q xs ys e2 f2 eq
  -- a free name's cell is in the smaller kept part too
  have free : ∀ {ca : Addr} {o : Obj} {u : Option Value}, kz1 ca = some o → o.data = .cell u → kz ca = some o := by
    intro ca o u e hd
    cases lv with
    | val d => rw [r.2] at e; exact e
    | own p xs =>
      obtain ⟨_, a, vs, n, _, hk, _, _, rfl⟩ := r
      by_cases q : ca = a
      · subst q; rw [show kput kz ca (lobj vs n) ca = some (lobj vs n) from zput_at] at e; cases e; cases hd
      · rw [kput_ne q] at e; exact e
  have nk : ∀ {b}, kz1 b = none → kz b = none := fun {b} e => by
    cases q : kz b with
    | none => rfl
    | some o => rw [hle _ _ q] at e; cases e
  have others : ∀ (p : Addr) (h' : Heap), (∀ b o, b ≠ p → s.heap.get? b = some o → h'.get? b = some o) → (∀ b vs n, s.heap.get? b = some (lobj vs n) → b ≠ p) → ∀ y l u, y ≠ x → Holds kz1 z s.heap α y u l → Holds kz z h' α' y u l := by
    intro p h' hk hl y l u hy H
    cases l with
    | val d => exact H
    | own p' xs =>
      obtain ⟨c1, ⟨vs, n, c2, c3⟩, c4, c5, c6⟩ := H
      have : α' y = α y := if_neg hy
      exact ⟨by rw [this]; exact c1, ⟨vs, n, by rw [this]; exact hk _ _ (hl _ _ _ c2) c2, c3⟩, by rw [this]; exact nk c4, by rw [this]; exact c5, fun a q => by rw [this]; exact c6 a q⟩
  have mine : ∀ (p : Addr) (h' : Heap), (∀ b o, b ≠ p → s.heap.get? b = some o → h'.get? b = some o) → (∀ b vs n, s.heap.get? b = some (lobj vs n) → b ≠ p) → Holds kz z h' α' x v lv := by
    intro p h' hk hl
    cases lv with
    | val d => exact r.1
    | own p' xs =>
      obtain ⟨rfl, a, vs, n, rfl, hka, hza, hr, e1⟩ := r
      have ha : s.heap.get? a = some (lobj vs n) := S.keep _ _ (by rw [e1]; exact zput_at)
      have : α' x = a := if_pos rfl
      exact ⟨by rw [this], ⟨vs, n, by rw [this]; exact hk _ _ (hl _ _ _ ha) ha, hr⟩, by rw [this]; exact hka, by rw [this]; exact hza, fun _ q => nomatch q⟩
  rcases hx with hx | hx
  · refine wpAny_storeName_local (by show env.scope.names.lookup x = _; rw [he.scope]; exact hx) h1 (fun h' hn hs => h _ ?_ fun _ b o q e => (hs.2 b q).trans e) (by rw [kd]; rfl)
    have hL : ∀ b vs n, s.heap.get? b = some (lobj vs n) → b ≠ env.locals := fun b vs n e => list_not_dict e h1
    have hk : ∀ b o, b ≠ env.locals → s.heap.get? b = some o → h'.get? b = some o := fun b o q e => (hs.2 b q).trans e
    refine S.touch hle ht (nk S.priv.1) S.priv.2 hk (fun y ca u a1 a2 a3 => ?_) ⟨_, α', hn, fun y l e => ?_, apart⟩
    · obtain ⟨o, ho, hd⟩ := id a3
      exact ⟨u, o, hk _ _ (cell_not_dict a3 h1) ho, hd⟩
    · rcases look _ _ e with ⟨rfl, rfl⟩ | ⟨e1, e2⟩
      · exact ⟨v, .loc hx (by simp), mine _ _ hk hL⟩
      · obtain ⟨u, b1, b2⟩ := h2 y l e2
        refine ⟨u, ?_, others _ _ hk hL y l u e1 b2⟩
        rcases b1 with ⟨c1, c2⟩ | ⟨ca, c1, c2, c3⟩ | ⟨ca, o, c1, c2, c3, c4⟩
        · exact .loc c1 (by simp only [e1, if_false]; exact c2)
        · obtain ⟨o, ho, hd⟩ := id c3
          exact .cell ca c1 c2 ⟨o, hk _ _ (cell_not_dict c3 h1) ho, hd⟩
        · exact .free ca o c1 c2 (free c3 c4) c4
  · obtain ⟨ca, u0, a1, a2, a3, a4⟩ := S.cellT x hx
    refine wpAny_storeName_cell kd (by show env.scope.names.lookup x = _; rw [he.scope]; exact hx) a1 a2 (fun h' hn hs => h _ ?_ fun q => by rw [hx] at q; cases q)
    have hL : ∀ b vs n, s.heap.get? b = some (lobj vs n) → b ≠ ca := fun b vs n e => list_not_cell e a2
    have hk : ∀ b o, b ≠ ca → s.heap.get? b = some o → h'.get? b = some o := fun b o q e => (hs.2 b q).trans e
    refine S.touch (t := s.toks) hle ht (nk a3) a4 hk (fun y cb u b1 b2 b3 => ?_) ⟨m, α', ?_, fun y l e => ?_, apart⟩
    · by_cases q : cb = ca
      · subst q; exact ⟨_, hn⟩
      · obtain ⟨o, ho, hd⟩ := b3
        exact ⟨u, o, hk _ _ q ho, hd⟩
    · exact h1.sameBut hs (Ne.symm (cell_not_dict a2 h1))
    · rcases look _ _ e with ⟨rfl, rfl⟩ | ⟨e1, e2⟩
      · exact ⟨v, .cell ca hx a1 hn, mine _ _ hk hL⟩
      · obtain ⟨u, b1, b2⟩ := h2 y l e2
        refine ⟨u, ?_, others _ _ hk hL y l u e1 b2⟩
        rcases b1 with ⟨c1, c2⟩ | ⟨cb, c1, c2, c3⟩ | ⟨cb, o, c1, c2, c3, c4⟩
        · exact .loc c1 c2
        · have hne : cb ≠ ca := fun q => e1 (S.cellD y x cb c1 hx c2 (q ▸ a1))
          obtain ⟨o, ho, hd⟩ := c3
          exact .cell cb c1 c2 ⟨o, hk _ _ hne ho, hd⟩
        · exact .free cb o c1 c2 (free c3 c4) c4

theorem store_slot {x : Str} {v : Value} {lv : LV} {kz1 : Fz} {Q : Unit → Shared → Prop} (he : EnvOk sc env) (S : Sim hT os0 sc env σ kz1 z s) (ht : Le hT.get? kz) (r : Slot kz z v kz1 lv)
    (hx : sc.names.lookup x = some .local ∨ sc.names.lookup x = some .cell) (h : ∀ s', Sim hT os0 sc env ((x, lv) :: σ) kz z s' → Q () s') : wpAny M A (storeName env x v) Q E s :=
  store_slotX he S ht r hx fun s' S' _ => h s' S'
end
end Smith

end

section
namespace Smith

section
variable {hT : Heap} {os0 : OsState} {sc : Scope} {env : Env} {σ : St} {kz z : Fz} {s : Shared}

theorem look_cons {x y : Str} {lv l : LV} (e : ((x, lv) :: σ).lookup y = some l) : (y = x ∧ l = lv) ∨ (y ≠ x ∧ σ.lookup y = some l) := by
  rw [List.lookup_cons] at e
  by_cases hy : y = x
  · subst hy; simp only [beq_self_eq_true] at e; cases e; exact .inl ⟨rfl, rfl⟩
  · rw [show (y == x) = false by simpa using hy] at e; exact .inr ⟨hy, e⟩

inductive OwnSt (hT : Heap) (os0 : OsState) (sc : Scope) (env : Env) (σ : St) (kz z : Fz) (s : Shared) (x : Str) (p : Option Addr) (xs : List D) : Prop where
  | mk (a : Addr) (vs : List Value) (n : Nat) (m : Str → Option Value) : s.heap.Ns env.locals m → Var sc env kz s.heap m x (.ref a) → s.heap.get? a = some (lobj vs n) → RepL z vs xs → kz a = none → z a = none → (∀ b, p = some b → a = b) →
      (∀ h' t vs' n' xs', (∀ b o, b ≠ a → s.heap.get? b = some o → h'.get? b = some o) → h'.get? a = some (lobj vs' n') → RepL z vs' xs' → Sim hT os0 sc env ((x, .own p xs') :: σ) kz z { s with heap := h', toks := t }) →
      (p = none → Sim hT os0 sc env ((x, .val (.lst xs)) :: σ) kz (zput z a (lobj vs n)) s) → OwnSt hT os0 sc env σ kz z s x p xs
theorem Sim.own {x : Str} {p : Option Addr} {xs : List D} (S : Sim hT os0 sc env σ kz z s) (hx : σ.lookup x = some (.own p xs)) :
    OwnSt hT os0 sc env σ kz z s x p xs := by
  obtain ⟨m, α, h1, h2, h3⟩ := S.loc
  obtain ⟨v, hv, hH⟩ := h2 x _ hx
  obtain ⟨rfl, ⟨vs, n, c2, c3⟩, c4, c5, c6⟩ := hH
  refine ⟨α x, vs, n, m, h1, hv, c2, c3, c4, c5, fun b q => c6 b q, ?_, ?_⟩
  · intro h' t vs' n' xs' hk ha hr
    have hd : ∀ b v, s.heap.IsCell b v → h'.IsCell b v := fun b v hc => by
      have := list_not_cell c2 hc
      obtain ⟨o, ho, hd⟩ := hc
      exact ⟨o, hk _ _ (Ne.symm this) ho, hd⟩
    refine S.touch (t := t) Le.rfl S.top c4 c5 hk (fun y ca u a1 a2 a3 => ⟨u, hd _ _ a3⟩) ⟨m, α, ?_, fun y l e => ?_, fun y y' p' q' xs1 ys1 e e' => ?_⟩
    · obtain ⟨o, es, ep, ho, r⟩ := id h1
      exact ⟨o, es, ep, hk _ _ (Ne.symm (list_not_dict c2 h1)) ho, r⟩
    · have vk : ∀ {y v}, Var sc env kz s.heap m y v → Var sc env kz h' m y v := by
        rintro y v (⟨a, b⟩ | ⟨ca, b1, b2, b3⟩ | ⟨ca, o, a, b, c, d⟩)
        · exact .loc a b
        · exact .cell ca b1 b2 (hd _ _ b3)
        · exact .free ca o a b c d
      rcases look_cons e with ⟨rfl, rfl⟩ | ⟨e1, e2⟩
      · exact ⟨_, vk hv, rfl, ⟨vs', n', ha, hr⟩, c4, c5, c6⟩
      · obtain ⟨u, b1, b2⟩ := h2 y l e2
        refine ⟨u, vk b1, ?_⟩
        cases l with
        | val d => exact b2
        | own p' ys =>
          obtain ⟨d1, ⟨ws, n2, d2, d3⟩, d4, d5, d6⟩ := b2
          exact ⟨d1, ⟨ws, n2, hk _ _ (fun q => e1 (h3 y x p' p ys xs e2 hx q)) d2, d3⟩, d4, d5, d6⟩
    · have red : ∀ {y p' ys}, ((x, LV.own p xs') :: σ).lookup y = some (.own p' ys) → ∃ p'' ys', σ.lookup y = some (.own p'' ys') := by
        intro y p' ys e
        rcases look_cons e with ⟨rfl, _⟩ | ⟨_, e2⟩
        · exact ⟨_, _, hx⟩
        · exact ⟨_, _, e2⟩
      obtain ⟨_, _, f1⟩ := red e
      obtain ⟨_, _, f2⟩ := red e'
      exact h3 y y' _ _ _ _ f1 f2
  · intro hp
    have hz : Le z (zput z (α x) (lobj vs n)) := zput_le c5
    have hne : ∀ {b v}, s.heap.IsCell b v → b ≠ α x := fun hc => Ne.symm (list_not_cell c2 hc)
    refine ⟨S.keep, fun b o e => ?_, S.top, S.topz.trans hz, S.gens, S.os, ⟨S.priv.1, ?_⟩, fun y hy => ?_, S.cellD, m, α, h1, fun y l e => ?_, fun y y' p' q' xs1 ys1 e e' => ?_⟩
    · unfold zput at e; split at e
      · rename_i q; cases e; rw [q]; exact c2
      · exact S.froz _ _ e
    · rw [zput_ne (Ne.symm (list_not_dict c2 h1))]; exact S.priv.2
    · obtain ⟨ca, u, a1, a2, a3, a4⟩ := S.cellT y hy
      exact ⟨ca, u, a1, a2, a3, by rw [zput_ne (hne a2)]; exact a4⟩
    · rcases look_cons e with ⟨rfl, rfl⟩ | ⟨e1, e2⟩
      · exact ⟨_, hv, .lst zput_at (c3.mono hz)⟩
      · obtain ⟨u, b1, b2⟩ := h2 y l e2
        refine ⟨u, b1, ?_⟩
        cases l with
        | val d => exact Rep.mono hz b2
        | own p' ys =>
          obtain ⟨d1, ⟨ws, n2, d2, d3⟩, d4, d5, d6⟩ := b2
          exact ⟨d1, ⟨ws, n2, d2, d3.mono hz⟩, d4, by rw [zput_ne (fun q => e1 (h3 y x p' p ys xs e2 hx q))]; exact d5, d6⟩
    · rcases look_cons e with ⟨_, q⟩ | ⟨_, f1⟩
      · cases q
      · rcases look_cons e' with ⟨_, q⟩ | ⟨_, f2⟩
        · cases q
        · exact h3 y y' p' q' xs1 ys1 f1 f2
end

section
variable {prog : Program} {w : World} {hT : Heap} {os0 : OsState} {sc : Scope} {k : Nat} {σ : St} {α β : Type}

/-- a list of one's own is done: from now on it is data -/
theorem W.freeze {R : Fz → α → β → Prop} {t : Env → Sem α} {Q : β → St → Prop} (x : Str) {xs : List D} (hx : σ.lookup x = some (.own none xs)) (h : W prog w hT os0 k sc R t ((x, .val (.lst xs)) :: σ) Q) :
    W prog w hT os0 k sc R t σ Q := by
  intro env A s kz z he hr hs
  obtain ⟨a, vs, n, m, _, _, c2, _, c4, c5, _, _, f⟩ := hs.own hx
  have g : Grow kz z (zput z a (lobj vs n)) := ⟨zput_le c5, fun b o e => by
    unfold zput at e; split at e
    · rename_i q; rw [q]; exact .inr c4
    · exact .inl e⟩
  exact wpAny_mono (h env A s kz _ he hr (f rfl)) (fun a s' x => x.weaken g) fun _ _ x => x

inductive WatL (hT : Heap) (os0 : OsState) (sc : Scope) (env : Env) (kz z : Fz) (Q : LV → St → Prop) (v : Value) (s' : Shared) : Prop where
  | mk (lv : LV) (σ' : St) (z' kz1 : Fz) : Grow kz z z' → Slot kz z' v kz1 lv → Sim hT os0 sc env σ' kz1 z' s' → Q lv σ' → WatL hT os0 sc env kz z Q v s'
/-- the value of an expression that is to be stored -/
def WL (prog : Program) (w : World) (hT : Heap) (os0 : OsState) (k : Nat) (sc : Scope) (e : Expr) (σ : St) (Q : LV → St → Prop) : Prop :=
  ∀ env A s kz z, EnvOk sc env → Room k A → Sim hT os0 sc env σ kz z s →
    wpAny (model prog w) A (eval e env) (WatL hT os0 sc env kz z Q) (fun _ _ => False) s

section
variable (prog : Program) (w : World) (hT : Heap) (os0 : OsState) (sc : Scope) (k : Nat)
abbrev KVal (Q : LV → St → Prop) : D → St → Prop := fun d σ' => Q (.val d) σ'
def KThen (rest : List Stmt) (Q : Fl → St → Prop) : Fl → St → Prop := fun f σ1 => match f with | .next => WXs prog w hT os0 k sc rest σ1 Q | f => Q f σ1
abbrev KSet (x : Str) (Q : Fl → St → Prop) : LV → St → Prop := fun lv σ1 => Q .next ((x, lv) :: σ1)
abbrev KSetR (x : Str) (Q : Fl → St → Prop) (σ1 : St) : D → Prop := fun r => Q .next ((x, .val r) :: σ1)
abbrev KAug (T : List Value → Sem Value) (x : Str) (d : D) (Q : Fl → St → Prop) : D → St → Prop := fun d2 σ1 => Op prog w hT os0 0 [d, d2] T (KSetR x Q σ1)
abbrev KIf (b o : List Stmt) (Q : Fl → St → Prop) : Bool → St → Prop := fun c σ1 => (c = true → WXs prog w hT os0 k sc b σ1 Q) ∧ (c = false → WXs prog w hT os0 k sc o σ1 Q)
def KRet (Q : Fl → St → Prop) : D → St → Prop := fun d σ1 => Q (.ret d) σ1
end
theorem WL.val {e : Expr} {Q : LV → St → Prop} (h : WE prog w hT os0 k sc e σ (KVal Q)) : WL prog w hT os0 k sc e σ Q := fun env A s kz z he hr hs =>
  h.step he hr hs fun v d σ1 z1 s1 g S r q => ⟨.val d, σ1, z1, kz, g, ⟨r, rfl⟩, S, q⟩

/-- a new list is one's own -/
theorem own_new {env : Env} {kz z z0 : Fz} {s : Shared} {vs : List Value} {ds : List D} {Q : LV → St → Prop} (S : Sim hT os0 sc env σ kz z s) (g : Grow kz z0 z) (r : RepL z vs ds) (q : Q (.own none ds) σ) (t : Nat) :
    WatL hT os0 sc env kz z0 Q (.ref s.heap.objs.size) { s with heap := s.heap.push (lobj vs 0), toks := t } := by
  have nk : kz s.heap.objs.size = none := by
    cases e : kz s.heap.objs.size with
    | none => rfl
    | some o => have := S.keep _ _ e; rw [get_new] at this; cases this
  have nz : z s.heap.objs.size = none := by
    cases e : z s.heap.objs.size with
    | none => rfl
    | some o => have := S.froz _ _ e; rw [get_new] at this; cases this
  obtain ⟨S1, _⟩ := S.grow (s' := { s with heap := s.heap.push (lobj vs 0), toks := t }) (z' := z) ⟨get_push _, Grow.rfl, S.froz.trans (get_push _), rfl, rfl⟩
  refine ⟨.own none ds, σ, z, kput kz s.heap.objs.size (lobj vs 0), g, ⟨rfl, _, vs, 0, rfl, nk, nz, r, rfl⟩, ?_, q⟩
  have ne : ∀ b o, s.heap.get? b = some o → b ≠ s.heap.objs.size := fun b o e q => by rw [q, get_new] at e; cases e
  obtain ⟨m, α, h1, h2, h3⟩ := S.loc
  refine ⟨fun b o e => ?_, S1.froz, S1.top.trans (zput_le nk), S1.topz, S1.gens, S1.os, ⟨?_, S1.priv.2⟩, fun x hx => ?_, S1.cellD, m, α, h1.push _, fun x lv e => ?_, h3⟩
  · unfold kput zput at e; split at e
    · rename_i q; cases e; rw [q]; exact Heap.get?_push_size _ rfl
    · exact S1.keep _ _ e
  · obtain ⟨o, es, ep, ho, _⟩ := h1
    rw [kput_ne (ne _ _ ho)]; exact S.priv.1
  · obtain ⟨ca, v, a1, ⟨o, ho, hd⟩, a3, a4⟩ := S.cellT x hx
    exact ⟨ca, v, a1, ⟨o, get_push _ _ _ ho, hd⟩, by rw [kput_ne (ne _ _ ho)]; exact a3, a4⟩
  · obtain ⟨v, b1, b2⟩ := h2 x lv e
    refine ⟨v, ?_, ?_⟩
    · rcases b1 with ⟨a, b⟩ | ⟨ca, c1, c2, o, ho, hd⟩ | ⟨ca, o, c1, c2, c3, c4⟩
      · exact .loc a b
      · exact .cell ca c1 c2 ⟨o, get_push _ _ _ ho, hd⟩
      · exact .free ca o c1 c2 (zput_le nk _ _ c3) c4
    · cases lv with
      | val d => exact b2
      | own p xs =>
        obtain ⟨d1, ⟨ws, n2, d2, d3⟩, d4, d5, d6⟩ := b2
        exact ⟨d1, ⟨ws, n2, get_push _ _ _ d2, d3⟩, by rw [kput_ne (ne _ _ d2)]; exact d4, d5, d6⟩

theorem WL.list {es : List Expr} {pos} {Q : LV → St → Prop} (h : WA prog w hT os0 k sc pos es σ fun ds σ1 => ds.length ≤ sizeLine ∧ Q (.own none ds) σ1) :
    WL prog w hT os0 k sc (.List es pos) σ Q := fun env A s kz z he hr hs =>
  List_ (h.step he hr hs fun vs ds σ1 z1 s1 g1 S1 r1 ⟨hl, q⟩ => wpAny_newObj_type (own_new S1 g1 r1 q s1.toks) (by show vs.toArray.size ≤ sizeLine; rw [List.size_toArray, r1.length]; exact hl))

/-! ## statements -/
theorem WXs.nil {Q : Fl → St → Prop} (h : Q .next σ) : WXs prog w hT os0 k sc [] σ Q := fun env A s kz z he hr hs =>
  wpAny_execs_nil ⟨_, σ, z, Grow.rfl, hs, .next, h⟩
theorem WXs.cons {st : Stmt} {rest : List Stmt} {Q : Fl → St → Prop}
    (h : WX prog w hT os0 k sc st σ (KThen prog w hT os0 sc k rest Q)) : WXs prog w hT os0 k sc (st :: rest) σ Q := fun env A s kz z he hr hs =>
  wpAny_execs_cons (h.step he hr hs fun f fl σ1 z1 s1 g1 S1 r1 q => by
    cases r1 with
    | next => exact q.on he hr g1 S1
    | brk => exact ⟨.brk, σ1, z1, g1, S1, .brk, q⟩
    | cont => exact ⟨.cont, σ1, z1, g1, S1, .cont, q⟩
    | ret r => exact ⟨.ret _, σ1, z1, g1, S1, .ret r, q⟩)
abbrev isVar (sc : Scope) (x : Str) : Prop := sc.names.lookup x = some .local ∨ sc.names.lookup x = some .cell
theorem WX.assign {x : Str} {e : Expr} {p pos} {Q : Fl → St → Prop} (hx : varB sc x = true) (hs : (kindE e != 3) = true) (h : WL prog w hT os0 k sc e σ (KSet x Q)) : WX prog w hT os0 k sc (.Assign [.Name x p] e pos) σ Q := fun env A s kz z he hr S =>
  wpAny_Assign_Name (wpAny_mono (h env A s kz z he hr S) (fun v s1 ⟨lv, σ1, z1, kz1, g1, sl, S1, q⟩ =>
    store_slot he S1 S.top sl (varB_at hx) fun s2 S2 => ⟨.next, _, z1, g1, S2, .next, q⟩) fun _ _ x => x) (no_swap hs _ _ env)
theorem WX.aug {x : Str} {e : Expr} {op : Operator} {p pos} {d : D} {Q : Fl → St → Prop} (hx : varB sc x = true) (hd : look σ x = some (.val d))
    (h : WE prog w hT os0 k sc e σ (KAug prog w hT os0 (inT op) x d Q)) : WX prog w hT os0 k sc (.AugAssign (.Name x p) op e pos) σ Q := by
  intro env A s kz z he hr S
  obtain ⟨hd, _, hn⟩ := look_at hd
  obtain ⟨m, α, hm, hv, _⟩ := S.loc
  obtain ⟨v, h1, h2⟩ := hv x _ hd
  refine wpAny_AugAssign_Name (load_var he S.keep hm h1 ?_ hn)
  refine h.step he hr S fun v2 d2 σ1 z1 s1 g1 S1 r1 q => ?_
  refine wpAny_mono (q.use (hr.le (Nat.zero_le _)) g1 S1 (rep2 (Rep.mono g1.1 h2) r1) (Q := fun r σ' => σ' = σ1 ∧ Q .next ((x, .val r) :: σ1)) fun _ q => ⟨rfl, q⟩) (fun u s2 ⟨d3, σ3, z3, g3, S3, r3, e3, q3⟩ => ?_) fun _ _ x => x
  subst e3
  exact store_slot (lv := .val d3) he S3 S3.top ⟨r3, rfl⟩ (varB_at hx) fun s4 S4 => ⟨.next, _, z3, g3, S4, .next, q3⟩
theorem WX.ifs {t : Expr} {b o : List Stmt} {pos} {Q : Fl → St → Prop} (h : WB prog w hT os0 k sc t σ (KIf prog w hT os0 sc k b o Q)) :
    WX prog w hT os0 k sc (.If t b o pos) σ Q := fun env A s kz z he hr hs =>
  wpAny_If (h.step he hr hs fun c c' σ1 z1 s1 g1 S1 r1 q => by
    subst r1
    cases c with
    | false => exact (q.2 rfl).on he hr g1 S1
    | true => exact (q.1 rfl).on he hr g1 S1)
theorem WX.ret {e : Expr} {pos} {Q : Fl → St → Prop} (h : WE prog w hT os0 k sc e σ (KRet Q)) : WX prog w hT os0 k sc (.Return (some e) pos) σ Q := fun env A s kz z he hr hs =>
  wpAny_Return_some (h.step he hr hs fun v d σ1 z1 s1 g1 S1 r1 q => ⟨_, σ1, z1, g1, S1, .ret r1, q⟩)
theorem WX.brk {pos} {Q : Fl → St → Prop} (h : Q .brk σ) : WX prog w hT os0 k sc (.Break pos) σ Q := fun env A s kz z he hr hs => by
  show wpAny _ _ (do standAt pos; pure Flow.brk) _ _ _
  exact wpAny_bind (wpAny_standAt (wpAny_pure ⟨_, σ, z, Grow.rfl, hs, .brk, h⟩))

/-- what a loop's turn must come to -/
inductive TurnN (I : Nat → St → Prop) (n : Nat) (σ : St) : Prop where
  | mk (m : Nat) (σ' : St) : m < n → Sub σ' σ → I m σ' → TurnN I n σ
def Turn (Q : Fl → St → Prop) (I : Nat → St → Prop) (n : Nat) (f : Fl) (σ : St) : Prop :=
  match f with
  | .next | .cont => TurnN I n σ
  | .brk => Q .next σ
  | .ret d => Q (.ret d) σ

/-- Q0 stands behind the name Q -/
def Imp (Q0 Q : Fl → St → Prop) : Prop := ∀ f σ, Q0 f σ → Q f σ
inductive WhileSt (hT : Heap) (os0 : OsState) (sc : Scope) (env : Env) (kz z : Fz) (I : Nat → St → Prop) (n : Nat) (s : Shared) : Prop where
  | mk (σ' : St) (z' : Fz) : Grow kz z z' → Sim hT os0 sc env σ' kz z' s → I n σ' → WhileSt hT os0 sc env kz z I n s
theorem WX.whileD {t : Expr} {b : List Stmt} {pos} {Q : Fl → St → Prop} (I : Nat → St → Prop) (n : Nat) (h0 : I n σ)
    (turn : ∀ n σ, I n σ → ∀ T, Imp (Turn Q I n) T → WB prog w hT os0 k sc t σ fun c σ1 => (c = true → WXs prog w hT os0 k sc b σ1 T) ∧ (c = false → Q .next σ1)) :
    WX prog w hT os0 k sc (.While t b [] pos) σ Q := by
  intro env A s kz z he hr hs
  refine wpAny_While (codeAny_whileLoop (WhileSt hT os0 sc env kz z I) (fun n s1 ⟨σ1, z1, g1, S1, i1⟩ => ?_) n ⟨σ, z, Grow.rfl, hs, h0⟩)
  refine wpAny_mono ((turn n σ1 i1 _ fun _ _ z => z).step (X := fun b s₂ => _) he hr S1 fun c c' σ2 z2 s2 g2 S2 r2 q => ?_) (fun _ _ x => x) fun _ _ x => x.elim
  subst r2
  cases c with
  | false =>
    simp only [Bool.false_eq_true, if_false]
    exact wpAny_execs_nil ⟨.next, σ2, z2, g1.trans g2, S2, .next, q.2 rfl⟩
  | true =>
    simp only [if_true]
    refine wpAny_mono ((q.1 rfl).step (X := fun f s₃ => _) he hr S2 fun f fl σ3 z3 s3 g3 S3 r3 q3 => ?_) (fun _ _ x => x) fun _ _ x => x.elim
    cases r3 with
    | next => obtain ⟨m, σ4, hm, hsub, i4⟩ := q3; exact ⟨m, hm, σ4, z3, (g1.trans g2).trans g3, S3.sub hsub, i4⟩
    | cont => obtain ⟨m, σ4, hm, hsub, i4⟩ := q3; exact ⟨m, hm, σ4, z3, (g1.trans g2).trans g3, S3.sub hsub, i4⟩
    | brk => exact ⟨.next, σ3, z3, (g1.trans g2).trans g3, S3, .next, q3⟩
    | ret r => exact ⟨_, σ3, z3, (g1.trans g2).trans g3, S3, .ret r, q3⟩
end
end Smith

end

section
namespace Smith

/-- an object that is no list, no dict and no cell: an iterator's part -/
structure NotPriv (o : Obj) : Prop where
  cls : o.cls ≠ .type "list"
  dict : ∀ es n, o.data ≠ .dict es n
  cell : ∀ v, o.data ≠ .cell v
inductive ObjAt (h : Heap) (b : Addr) : Prop where
  | mk (o : Obj) : h.get? b = some o → NotPriv o → ObjAt h b
structure OffAt (kz z : Fz) (h : Heap) (b : Addr) : Prop where
  obj : ObjAt h b
  kn : kz b = none
  zn : z b = none

noncomputable def kplus (kz : Fz) (fp : List Addr) (h : Heap) : Fz := fun b => if b ∈ fp then h.get? b else kz b
def Off (kz z : Fz) (h : Heap) (fp : List Addr) : Prop := ∀ b ∈ fp, OffAt kz z h b

section
variable {hT : Heap} {os0 : OsState} {sc : Scope} {env : Env} {σ : St} {kz z : Fz} {s : Shared} {fp : List Addr}

theorem Sim.more {h' : Heap} {t : Nat} (S : Sim hT os0 sc env σ kz z s) (hk : Le s.heap.get? h'.get?) : Sim hT os0 sc env σ kz z { s with heap := h', toks := t } :=
  (S.grow (s' := { s with heap := h', toks := t }) (z' := z) ⟨hk, Grow.rfl, S.froz.trans hk, rfl, rfl⟩).1

/-- parts of an iterator change -/
theorem Sim.off {h' : Heap} {t : Nat} (S : Sim hT os0 sc env σ kz z s) (ho : Off kz z s.heap fp) (hk : ∀ b o, b ∉ fp → s.heap.get? b = some o → h'.get? b = some o) :
    Sim hT os0 sc env σ kz z { s with heap := h', toks := t } := by
  have kn : ∀ b o, kz b = some o → b ∉ fp := fun b o e hb => by rw [(ho b hb).kn] at e; cases e
  have zn : ∀ b o, z b = some o → b ∉ fp := fun b o e hb => by rw [(ho b hb).zn] at e; cases e
  have dict : ∀ {b m}, s.heap.Ns b m → h'.Ns b m := fun {b m} ⟨o, es, ep, e, hd, r⟩ => ⟨o, es, ep, hk _ _ (fun hb => by
    obtain ⟨⟨o', e', _, h2, _⟩, _⟩ := ho b hb
    rw [e] at e'; cases e'; exact h2 _ _ hd) e, hd, r⟩
  have cell : ∀ {b v}, s.heap.IsCell b v → h'.IsCell b v := fun {b v} ⟨o, e, hd⟩ => ⟨o, hk _ _ (fun hb => by
    obtain ⟨⟨o', e', _, _, h3⟩, _⟩ := ho b hb
    rw [e] at e'; cases e'; exact h3 _ hd) e, hd⟩
  have list : ∀ {b vs n}, s.heap.get? b = some (lobj vs n) → h'.get? b = some (lobj vs n) := fun {b vs n} e => hk _ _ (fun hb => by
    obtain ⟨⟨o', e', h1, _⟩, _⟩ := ho b hb
    rw [e] at e'; cases e'; exact h1 rfl) e
  obtain ⟨k1, k2, k3, k4, k5, k6, k7, k8, k9, m, α, h1, h2, h3⟩ := S
  refine ⟨fun b o e => hk _ _ (kn _ _ e) (k1 _ _ e), fun b o e => hk _ _ (zn _ _ e) (k2 _ _ e), k3, k4, k5, k6, k7, fun x hx => ?_, k9, m, α, dict h1, fun x lv e => ?_, h3⟩
  · obtain ⟨ca, v, a1, a2, a3, a4⟩ := k8 x hx
    exact ⟨ca, v, a1, cell a2, a3, a4⟩
  · obtain ⟨v, b1, b2⟩ := h2 x lv e
    refine ⟨v, ?_, ?_⟩
    · rcases b1 with ⟨a, b⟩ | ⟨ca, c1, c2, c3⟩ | ⟨ca, o, a, b, c, d⟩
      · exact .loc a b
      · exact .cell ca c1 c2 (cell c3)
      · exact .free ca o a b c d
    · cases lv with
      | val d => exact b2
      | own p xs =>
        obtain ⟨d1, ⟨ws, n2, d2, d3⟩, d4, d5, d6⟩ := b2
        exact ⟨d1, ⟨ws, n2, list d2, d3⟩, d4, d5, d6⟩

/-- an iterator's parts are kept while a turn runs -/
theorem Sim.protect (S : Sim hT os0 sc env σ kz z s) (ho : Off kz z s.heap fp) : Sim hT os0 sc env σ (kplus kz fp s.heap) z s := by
  have le : Le kz (kplus kz fp s.heap) := fun b o e => by
    unfold kplus; split
    · rename_i hb; rw [(ho b hb).kn] at e; cases e
    · exact e
  have off : ∀ {b}, b ∉ fp → kplus kz fp s.heap b = kz b := fun h => if_neg h
  obtain ⟨k1, k2, k3, k4, k5, k6, k7, k8, k9, m, α, h1, h2, h3⟩ := S
  have dict : ∀ {b m}, s.heap.Ns b m → b ∉ fp := fun {b m} ⟨o, es, ep, e, hd, r⟩ hb => by
    obtain ⟨⟨o', e', _, h2, _⟩, _⟩ := ho b hb
    rw [e] at e'; cases e'; exact h2 _ _ hd
  have cell : ∀ {b v}, s.heap.IsCell b v → b ∉ fp := fun {b v} ⟨o, e, hd⟩ hb => by
    obtain ⟨⟨o', e', _, _, h3⟩, _⟩ := ho b hb
    rw [e] at e'; cases e'; exact h3 _ hd
  have list : ∀ {b vs n}, s.heap.get? b = some (lobj vs n) → b ∉ fp := fun {b vs n} e hb => by
    obtain ⟨⟨o', e', h1, _⟩, _⟩ := ho b hb
    rw [e] at e'; cases e'; exact h1 rfl
  refine ⟨fun b o e => ?_, k2, k3.trans le, k4, k5, k6, ⟨(off (dict h1)).trans k7.1, k7.2⟩, fun x hx => ?_, k9, m, α, h1, fun x lv e => ?_, h3⟩
  · unfold kplus at e; split at e
    · exact e
    · exact k1 _ _ e
  · obtain ⟨ca, v, a1, a2, a3, a4⟩ := k8 x hx
    exact ⟨ca, v, a1, a2, (off (cell a2)).trans a3, a4⟩
  · obtain ⟨v, b1, b2⟩ := h2 x lv e
    refine ⟨v, ?_, ?_⟩
    · rcases b1 with ⟨a, b⟩ | ⟨ca, a, b, c⟩ | ⟨ca, o, c1, c2, c3, c4⟩
      · exact .loc a b
      · exact .cell ca a b c
      · exact .free ca o c1 c2 (le _ _ c3) c4
    · cases lv with
      | val d => exact b2
      | own p xs =>
        obtain ⟨d1, ⟨ws, n2, d2, d3⟩, d4, d5, d6⟩ := b2
        exact ⟨d1, ⟨ws, n2, d2, d3⟩, (off (list d2)).trans d4, d5, d6⟩

theorem Sim.unprotect {h0 : Heap} {z0 : Fz} (S : Sim hT os0 sc env σ (kplus kz fp h0) z s) (ht : Le hT.get? kz) (ho : ∀ b ∈ fp, OffAt kz z0 h0 b) : Sim hT os0 sc env σ kz z s := by
  have le : Le kz (kplus kz fp h0) := fun b o e => by
    unfold kplus; split
    · rename_i hb; rw [(ho b hb).kn] at e; cases e
    · exact e
  have nn : ∀ {b}, kplus kz fp h0 b = none → kz b = none := fun {b} e => by
    cases q : kz b with
    | none => rfl
    | some o => rw [le _ _ q] at e; cases e
  obtain ⟨k1, k2, k3, k4, k5, k6, k7, k8, k9, m, α, h1, h2, h3⟩ := S
  refine ⟨le.trans k1, k2, ht, k4, k5, k6, ⟨nn k7.1, k7.2⟩, fun x hx => ?_, k9, m, α, h1, fun x lv e => ?_, h3⟩
  · obtain ⟨ca, v, a1, a2, a3, a4⟩ := k8 x hx
    exact ⟨ca, v, a1, a2, nn a3, a4⟩
  · obtain ⟨v, b1, b2⟩ := h2 x lv e
    refine ⟨v, ?_, ?_⟩
    · rcases b1 with ⟨a, b⟩ | ⟨ca, a, b, c⟩ | ⟨ca, o, c1, c2, c3, c4⟩
      · exact .loc a b
      · exact .cell ca a b c
      · refine .free ca o c1 c2 ?_ c4
        unfold kplus at c3; split at c3
        · rename_i hb
          obtain ⟨⟨o', e', _, _, q⟩, _⟩ := ho _ hb
          rw [c3] at e'; cases e'; exact absurd c4 (q _)
        · exact c3
    · cases lv with
      | val d => exact b2
      | own p xs =>
        obtain ⟨d1, d2, d4, d5, d6⟩ := b2
        exact ⟨d1, d2, nn d4, d5, d6⟩

theorem Grow.unprotect {h0 : Heap} {z' : Fz} (g : Grow (kplus kz fp h0) z z') (ho : Off kz z h0 fp) : Grow kz z z' ∧ ∀ b ∈ fp, z' b = none := by
  refine ⟨⟨g.1, fun b o e => (g.2 b o e).imp id fun q => ?_⟩, fun b hb => ?_⟩
  · unfold kplus at q; split at q
    · rename_i hb; exact (ho b hb).kn
    · exact q
  · cases e : z' b with
    | none => rfl
    | some o =>
      rcases g.2 b o e with q | q
      · rw [(ho b hb).zn] at q; cases q
      · unfold kplus at q
        rw [if_pos hb] at q
        obtain ⟨o', e', _⟩ := (ho b hb).obj
        rw [q] at e'; cases e'
end

inductive StepAns (prog : Program) (w : World) (hT : Heap) (os0 : OsState) (sc : Scope) (env : Env) (target : Expr) (it : Value) (bT : Nat → St → St) (I : Nat → Heap → Prop) (A : Around) (σ : St) (kz z : Fz) (i : Nat) (r : Option Value) (s1 : Shared) : Prop where
  | mk (v : Value) : r = some v → wpAny (model prog w) A (letOwnedTupleGo target it v) (fun _ s2 => wpAny (model prog w) A (assign target env v)
      (fun _ s3 => Sim hT os0 sc env (bT i σ) kz z s3 ∧ I (i + 1) s3.heap) (fun _ _ => False) s2) (fun _ _ => False) s1 → StepAns prog w hT os0 sc env target it bT I A σ kz z i r s1
/-- what is needed of an iterator: n turns, what each binds, where its parts lie -/
structure IsIter (prog : Program) (w : World) (hT : Heap) (os0 : OsState) (sc : Scope) (env : Env) (target : Expr) (it : Value) (n : Nat) (bT : Nat → St → St) (z0 : Fz) (I : Nat → Heap → Prop) (fp : List Addr) : Prop where
  stable : ∀ i (h h' : Heap), (∀ b ∈ fp, ∀ o, h.get? b = some o → h'.get? b = some o) → I i h → I i h'
  there : ∀ i h, I i h → ∀ b ∈ fp, ObjAt h b
  step : ∀ A σ kz z s i, Room 0 A → i < n → Sim hT os0 sc env σ kz z s → Le z0 z → I i s.heap → Off kz z s.heap fp →
    wpAny (model prog w) A (pyNext it) (StepAns prog w hT os0 sc env target it bT I A σ kz z i) (fun _ _ => False) s
  stop : ∀ A σ kz z s, Room 0 A → Sim hT os0 sc env σ kz z s → Le z0 z → I n s.heap → Off kz z s.heap fp →
    wpAny (model prog w) A (pyNext it) (fun r s1 => r = none ∧ Sim hT os0 sc env σ kz z s1) (fun _ _ => False) s
  self : ∀ A s i (Q : Value → Shared → Prop) (E : Value → Shared → Prop), I i s.heap → Q it s → wpAny (model prog w) A (pyIter it) Q E s

inductive WatI (prog : Program) (w : World) (hT : Heap) (os0 : OsState) (sc scT : Scope) (target : Expr) (Q : Nat → (Nat → St → St) → St → Prop) (env : Env) (kz z : Fz) (it : Value) (s2 : Shared) : Prop where
  | mk (n : Nat) (bT : Nat → St → St) (σ' : St) (z' : Fz) (I : Nat → Heap → Prop) (fp : List Addr) : Grow kz z z' → Sim hT os0 sc env σ' kz z' s2 →
      (∀ env', EnvOk scT env' → IsIter prog w hT os0 scT env' target it n bT z' I fp) → I 0 s2.heap → Off kz z' s2.heap fp → Q n bT σ' → WatI prog w hT os0 sc scT target Q env kz z it s2
/-- the head of a loop: the source, its iterator -/
def WI (prog : Program) (w : World) (hT : Heap) (os0 : OsState) (k : Nat) (sc scT : Scope) (target e : Expr) (σ : St) (Q : Nat → (Nat → St → St) → St → Prop) : Prop :=
  ∀ env A s kz z, EnvOk sc env → Room k A → Sim hT os0 sc env σ kz z s →
    wpAny (model prog w) A (eval e env) (fun x s1 => wpAny (model prog w) A (pyIter x) (WatI prog w hT os0 sc scT target Q env kz z) (fun _ _ => False) s1) (fun _ _ => False) s

section
variable {prog : Program} {w : World} {hT : Heap} {os0 : OsState} {sc : Scope} {k : Nat} {σ : St}

/-- what a for's turn must come to -/
inductive TurnFN (J : Nat → St → Prop) (i : Nat) (σ : St) : Prop where
  | mk (σ' : St) : Sub σ' σ → J (i + 1) σ' → TurnFN J i σ
def TurnF (Q : Fl → St → Prop) (J : Nat → St → Prop) (i : Nat) (f : Fl) (σ : St) : Prop :=
  match f with
  | .next | .cont => TurnFN J i σ
  | .brk => Q .next σ
  | .ret d => Q (.ret d) σ

/-- what a for loop still asks: an invariant by turns -/
inductive FOR (prog : Program) (w : World) (hT : Heap) (os0 : OsState) (k : Nat) (sc : Scope) (b : List Stmt) (Q : Fl → St → Prop) (n : Nat) (bT : Nat → St → St) (σ1 : St) : Prop where
  | mk (J : Nat → St → Prop) : J 0 σ1 → (∀ i σ, i < n → J i σ → ∀ T, Imp (TurnF Q J i) T → WXs prog w hT os0 k sc b (bT i σ) T) → (∀ σ, J n σ → Q .next σ) → FOR prog w hT os0 k sc b Q n bT σ1
inductive ForSt (hT : Heap) (os0 : OsState) (sc : Scope) (env : Env) (kz z1 : Fz) (n : Nat) (I : Nat → Heap → Prop) (fp : List Addr) (J : Nat → St → Prop) (k : Nat) (s' : Shared) : Prop where
  | mk (i : Nat) (σ' : St) (z' : Fz) : k = n - i → i ≤ n → Grow kz z1 z' → Sim hT os0 sc env σ' kz z' s' → I i s'.heap → Off kz z' s'.heap fp → J i σ' → ForSt hT os0 sc env kz z1 n I fp J k s'
theorem WX.forD {target iter : Expr} {b : List Stmt} {pos} {Q : Fl → St → Prop}
    (hs : (kindE iter != 4) = true)
    (h : WI prog w hT os0 k sc sc target iter σ (FOR prog w hT os0 k sc b Q)) :
    WX prog w hT os0 k sc (.For target iter b [] pos) σ Q := by
  intro env A s kz z he hr hs0
  refine wpAny_For (wpAny_mono (h env A s kz z he hr hs0) (fun x s1 hx => wpAny_mono hx (fun it s2 hit => ?_) fun _ _ x => x.elim) fun _ _ x => x.elim) (no_fold hs env)
  obtain ⟨n, bT, σ1, z1, I, fp, g1, S1, X, i0, o1, J, j0, turn, fin⟩ := hit
  replace X := X env he
  refine codeAny_forLoop_any (ForSt hT os0 sc env kz z1 n I fp J) ?_ n ⟨0, σ1, z1, rfl, Nat.zero_le _, Grow.rfl, S1, i0, o1, j0⟩
  rintro _ s3 ⟨i, σ3, z3, rfl, hi, g3, S3, i3, o3, j3⟩
  rcases Nat.lt_or_ge i n with hlt | hge
  · refine wpAny_mono (X.step A σ3 kz z3 s3 i (hr.le (Nat.zero_le _)) hlt S3 g3.1 i3 o3) (fun r s4 ⟨v, e, h4⟩ => ?_) fun _ _ x => x.elim
    subst e
    refine wpAny_mono h4 (fun _ s5 h5 => wpAny_mono h5 (fun _ s6 ⟨S6, i6⟩ => ?_) fun _ _ x => x.elim) fun _ _ x => x.elim
    have o6 : Off kz z3 s6.heap fp := fun b hb => ⟨X.there _ _ i6 b hb, (o3 b hb).kn, (o3 b hb).zn⟩
    refine wpAny_mono ((turn i σ3 hlt j3 _ fun _ _ z => z).step (X := fun f s₃ => _) he hr (S6.protect o6) fun f fl σ7 z7 s7 g7 S7 r7 q7 => ?_) (fun _ _ x => x) fun _ _ x => x.elim
    obtain ⟨g7', f7⟩ := g7.unprotect o6
    have S7' := S7.unprotect S3.top o6
    have kp : ∀ b ∈ fp, ∀ o, s6.heap.get? b = some o → s7.heap.get? b = some o := fun b hb o e => S7.keep b o (by unfold kplus; rw [if_pos hb]; exact e)
    have i7 := X.stable _ _ _ kp i6
    have o7 : Off kz z7 s7.heap fp := fun b hb => ⟨X.there _ _ i7 b hb, (o6 b hb).kn, f7 b hb⟩
    cases r7 with
    | next => obtain ⟨σ8, hsub, j8⟩ := q7; exact ⟨n - (i + 1), by (first | exact nq100 hlt | omega), i + 1, σ8, z7, rfl, hlt, g3.trans g7', S7'.sub hsub, i7, o7, j8⟩
    | cont => obtain ⟨σ8, hsub, j8⟩ := q7; exact ⟨n - (i + 1), by (first | exact nq100 hlt | omega), i + 1, σ8, z7, rfl, hlt, g3.trans g7', S7'.sub hsub, i7, o7, j8⟩
    | brk => exact ⟨.next, σ7, z7, (g1.trans g3).trans g7', S7', .next, q7⟩
    | ret r => exact ⟨_, σ7, z7, (g1.trans g3).trans g7', S7', .ret r, q7⟩
  · obtain rfl : i = n := Nat.le_antisymm hi hge
    refine wpAny_mono (X.stop A σ3 kz z3 s3 (hr.le (Nat.zero_le _)) S3 g3.1 i3 o3) (fun r s4 ⟨e, S4⟩ => ?_) fun _ _ x => x.elim
    subst e
    exact wpAny_execs_nil ⟨.next, σ3, z3, g1.trans g3, S4, .next, fin _ j3⟩
end
end Smith

end

section
namespace Smith

section
variable {prog : Program} {w : World} {hT : Heap} {os0 : OsState} {sc : Scope} {k : Nat} {σ : St} {env : Env} {kz z : Fz} {s : Shared} {fp : List Addr} {A : Around}

abbrev Stable (fp : List Addr) (P : Heap → Prop) : Prop := ∀ h h' : Heap, (∀ b ∈ fp, ∀ o, h.get? b = some o → h'.get? b = some o) → P h → P h'

theorem bind_name {x : Str} {p : Pos} {v : Value} {d : D} {P : Heap → Prop} (he : EnvOk sc env) (S : Sim hT os0 sc env σ kz z s) (ho : Off kz z s.heap fp) (hP : Stable fp P) (h0 : P s.heap) (r : Rep z v d) (hx : isVar sc x) :
    wpAny (model prog w) A (assign (.Name x p) env v) (fun _ s3 => Sim hT os0 sc env ((x, .val d) :: σ) kz z s3 ∧ P s3.heap) (fun _ _ => False) s := by
  have S' := S.protect ho
  refine wpAny_assign_Name (store_slot (lv := .val d) he S' S'.top ⟨r, rfl⟩ hx fun s3 S3 => ?_)
  refine ⟨S3.unprotect S.top ho, hP _ _ (fun b hb o e => S3.keep b o (by unfold kplus; rw [if_pos hb]; exact e)) h0⟩

theorem bind_pair {x y : Str} {p q t : Pos} {m : Nat} {T : Addr} {u v : Value} {d e : D} {P : Heap → Prop} (hh : A.handled = none) (he : EnvOk sc env) (S : Sim hT os0 sc env σ kz z s) (ho : Off kz z s.heap fp) (hP : Stable fp P) (h0 : P s.heap)
    (hT' : s.heap.IsTuple T #[u, v]) (r1 : Rep z u d) (r2 : Rep z v e) (hx : isVar sc x) (hy : isVar sc y) :
    wpAny (model prog w) A (assign (.Tuple [.Name x p, .Name y q] m t) env (.ref T)) (fun _ s3 => Sim hT os0 sc env ((y, .val e) :: (x, .val d) :: σ) kz z s3 ∧ P s3.heap) (fun _ _ => False) s := by
  refine wpAny_assign_Tuple hh hT' rfl rfl fun h1 hx1 => ?_
  have kk : Le s.heap.get? h1.get? := fun b o e => hx1 b o (fun q => by rw [q, get_new] at e; cases e) e
  have S1 := S.more (t := s.toks) kk
  have o1 : Off kz z h1 fp := fun b hb => ⟨let ⟨o, a, c⟩ := (ho b hb).obj; ⟨o, kk _ _ a, c⟩, (ho b hb).kn, (ho b hb).zn⟩
  have p1 : P h1 := hP _ _ (fun b _ o e => kk _ _ e) h0
  have S1' := S1.protect o1
  show wpAny _ A (do holding [v] (assign (.Name x p) env u); do holding [] (assign (.Name y q) env v); pure ()) _ _ _
  refine wpAny_bind (wpAny_holding (wpAny_assign_Name (store_slot (lv := .val d) he S1' S1'.top ⟨r1, rfl⟩ hx fun s3 S3 => ?_)))
  refine wpAny_bind (wpAny_holding (wpAny_assign_Name (store_slot (lv := .val e) he S3 S3.top ⟨r2, rfl⟩ hy fun s4 S4 => wpAny_pure ?_)))
  refine ⟨S4.unprotect S.top o1, hP _ _ (fun b hb o e => S4.keep b o (by unfold kplus; rw [if_pos hb]; exact e)) p1⟩

theorem notPriv_fields {c : String} {vs : Array Value} {o : Obj} (h1 : o.cls = .type c) (h2 : o.data = .fields vs) (hc : c ≠ "list") : NotPriv o :=
  ⟨fun q => (by rw [h1] at q; cases q; exact hc rfl), fun _ _ q => (by rw [h2] at q; cases q), fun _ q => (by rw [h2] at q; cases q)⟩

/-! ### over a list -/
theorem listIter_stable {it l : Addr} (i : Nat) : Stable [it] (fun h : Heap => h.IsListIter it l i) := fun h h' hk ⟨o, a, b⟩ => ⟨o, hk it (.head _) _ a, b⟩
theorem getD_of {ds : List D} {i : Nat} (h : i < ds.length) : ds[i]? = some (ds[i]?.getD .none) := by simp [h]

theorem iter_list {x : Str} {p : Pos} {it l : Addr} {vs : List Value} {n : Nat} {ds : List D} {z0 : Fz} (he : EnvOk sc env) (hl : z0 l = some (lobj vs n)) (hr : RepL z0 vs ds) (hx : isVar sc x) :
    IsIter prog w hT os0 sc env (.Name x p) (.ref it) ds.length (fun i σ => (x, .val (ds[i]?.getD .none)) :: σ) z0 (fun i h => h.IsListIter it l i) [it] where
  stable i h h' hk hi := listIter_stable i h h' hk hi
  there i h hi b hb := by
    obtain rfl := List.mem_singleton.mp hb
    obtain ⟨o, a, b, c⟩ := hi
    exact ⟨o, a, notPriv_fields b c (by decide)⟩
  step A σ kz z s i hr' hi S hz hI ho := by
    obtain ⟨v, hv, rv⟩ := hr.get (getD_of hi)
    refine wpAny_pyNext_list_item (items := vs.toArray) hI ⟨_, S.froz _ _ (hz _ _ hl), rfl, _, rfl⟩ (by simpa using hv) fun h1 i1 hs1 => ⟨v, rfl, ?_⟩
    have kk : ∀ b o, b ∉ [it] → s.heap.get? b = some o → h1.get? b = some o := fun b o hb e => (hs1.2 b (fun q => hb (by rw [q]; exact .head _))).trans e
    have S1 := S.off (t := s.toks) ho kk
    refine wpAny_of_eq (a := ()) rfl ?_
    exact bind_name (P := fun h => h.IsListIter it l (i + 1)) he S1 (fun b hb => ⟨by obtain rfl := List.mem_singleton.mp hb; obtain ⟨o, a, b, c⟩ := i1; exact ⟨o, a, notPriv_fields b c (by decide)⟩, (ho b hb).kn, (ho b hb).zn⟩) (listIter_stable _) i1 (Rep.mono hz rv) hx
  stop A σ kz z s hr' S hz hI ho := by
    refine wpAny_pyNext_list_end (items := vs.toArray) hr'.1 hI ⟨_, S.froz _ _ (hz _ _ hl), rfl, _, rfl⟩ (by simp [hr.length]) fun h1 hs1 => ⟨rfl, ?_⟩
    exact S.off (t := s.toks) ho fun b o hb e => hs1 b o (fun q => hb (by rw [q]; exact .head _)) e
  self A s i Q E hI q := wpAny_pyIter_listiter hI q

theorem iter_listP {x y : Str} {p q t : Pos} {m : Nat} {it l : Addr} {vs : List Value} {n : Nat} {ds : List D} {f g : Nat → D} {z0 : Fz} (he : EnvOk sc env) (hl : z0 l = some (lobj vs n)) (hr : RepL z0 vs ds)
    (hfg : ∀ i, i < ds.length → ds[i]? = some (.tup [f i, g i])) (hx : isVar sc x) (hy : isVar sc y) :
    IsIter prog w hT os0 sc env (.Tuple [.Name x p, .Name y q] m t) (.ref it) ds.length (fun i σ => (y, .val (g i)) :: (x, .val (f i)) :: σ) z0 (fun i h => h.IsListIter it l i) [it] where
  stable i h h' hk hi := listIter_stable i h h' hk hi
  there i h hi b hb := by
    obtain rfl := List.mem_singleton.mp hb
    obtain ⟨o, a, b, c⟩ := hi
    exact ⟨o, a, notPriv_fields b c (by decide)⟩
  step A σ kz z s i hr' hi S hz hI ho := by
    obtain ⟨v, hv, rv⟩ := hr.get (hfg i hi)
    refine wpAny_pyNext_list_item (items := vs.toArray) hI ⟨_, S.froz _ _ (hz _ _ hl), rfl, _, rfl⟩ (by simpa using hv) fun h1 i1 hs1 => ⟨v, rfl, ?_⟩
    have kk : ∀ b o, b ∉ [it] → s.heap.get? b = some o → h1.get? b = some o := fun b o hb e => (hs1.2 b (fun q => hb (by rw [q]; exact .head _))).trans e
    have S1 := S.off (t := s.toks) ho kk
    cases rv with
    | tup hta hl2 =>
      cases hl2 with
      | cons ra rb =>
        cases rb with
        | cons rb rc =>
          cases rc
          refine PySem.wpAny_letOwnedTupleGo_listiter i1 ?_
          exact bind_pair (P := fun h => h.IsListIter it l (i + 1)) hr'.1 he S1 (fun b hb => ⟨by obtain rfl := List.mem_singleton.mp hb; obtain ⟨o, a, b, c⟩ := i1; exact ⟨o, a, notPriv_fields b c (by decide)⟩, (ho b hb).kn, (ho b hb).zn⟩) (listIter_stable _) i1
            ⟨_, S1.froz _ _ (hz _ _ hta), rfl, _, rfl⟩ (Rep.mono hz ra) (Rep.mono hz rb) hx hy
  stop A σ kz z s hr' S hz hI ho := by
    refine wpAny_pyNext_list_end (items := vs.toArray) hr'.1 hI ⟨_, S.froz _ _ (hz _ _ hl), rfl, _, rfl⟩ (by simp [hr.length]) fun h1 hs1 => ⟨rfl, ?_⟩
    exact S.off (t := s.toks) ho fun b o hb e => hs1 b o (fun q => hb (by rw [q]; exact .head _)) e
  self A s i Q E hI q := wpAny_pyIter_listiter hI q

theorem off_new (S : Sim hT os0 sc env σ kz z s) {a : Addr} {h' : Heap} {o : Obj} (ha : s.heap.get? a = none) (e : h'.get? a = some o) (ho : NotPriv o) : OffAt kz z h' a := by
  refine ⟨⟨o, e, ho⟩, ?_, ?_⟩
  · cases q : kz a with
    | none => rfl
    | some o => rw [S.keep _ _ q] at ha; cases ha
  · cases q : z a with
    | none => rfl
    | some o => rw [S.froz _ _ q] at ha; cases ha

theorem WI.list {scT : Scope} {x : Str} {p : Pos} {e : Expr} {Q : Nat → (Nat → St → St) → St → Prop} (hx : varB scT x = true)
    (h : WE prog w hT os0 k sc e σ (KL fun ds σ1 => Q ds.length (fun i σ => (x, .val (ds[i]?.getD .none)) :: σ) σ1)) : WI prog w hT os0 k sc scT (.Name x p) e σ Q := by
  intro env A s kz z he hr hs
  refine h.step he hr hs fun v d σ1 z1 s1 g1 S1 r1 q => ?_
  obtain @⟨ds, _, q⟩ := q
  cases r1 with
  | lst ha hl =>
    refine wpAny_pyIter_list (items := _) ⟨_, S1.froz _ _ ha, rfl, _, rfl⟩ ?_
    refine ⟨_, _, σ1, z1, _, _, g1, S1.more (t := s1.toks) (get_push _), fun _ he => iter_list he ha hl (varB_at hx), ⟨_, Heap.get?_push_size _ rfl, rfl, rfl⟩, fun b hb => ?_, q⟩
    obtain rfl := List.mem_singleton.mp hb
    exact off_new S1 get_new (Heap.get?_push_size _ rfl) (notPriv_fields rfl rfl (by decide))
inductive KPairs (x y : Str) (Q : Nat → (Nat → St → St) → St → Prop) : D → St → Prop where
  | mk {ds : List D} {σ1 : St} (f g : Nat → D) : (∀ i, i < ds.length → ds[i]? = some (.tup [f i, g i])) → Q ds.length (fun i σ => (y, .val (g i)) :: (x, .val (f i)) :: σ) σ1 → KPairs x y Q (.lst ds) σ1
theorem WI.listP {scT : Scope} {x y : Str} {p p' t : Pos} {m : Nat} {e : Expr} {Q : Nat → (Nat → St → St) → St → Prop} (hx : varB scT x = true) (hy : varB scT y = true)
    (h : WE prog w hT os0 k sc e σ (KPairs x y Q)) :
    WI prog w hT os0 k sc scT (.Tuple [.Name x p, .Name y p'] m t) e σ Q := by
  intro env A s kz z he hr hs
  refine h.step he hr hs fun v d σ1 z1 s1 g1 S1 r1 q => ?_
  obtain ⟨f, g, hfg, q⟩ := q
  cases r1 with
  | lst ha hl =>
    refine wpAny_pyIter_list (items := _) ⟨_, S1.froz _ _ ha, rfl, _, rfl⟩ ?_
    refine ⟨_, _, σ1, z1, _, _, g1, S1.more (t := s1.toks) (get_push _), fun _ he => iter_listP he ha hl hfg (varB_at hx) (varB_at hy), ⟨_, Heap.get?_push_size _ rfl, rfl, rfl⟩, fun b hb => ?_, q⟩
    obtain rfl := List.mem_singleton.mp hb
    exact off_new S1 get_new (Heap.get?_push_size _ rfl) (notPriv_fields rfl rfl (by decide))

/-! ### over a range -/
theorem rangeIter_stable {it : Addr} (x l c : Int) : Stable [it] (fun h : Heap => IsRangeIter h it x l c) := fun h h' hk e => hk it (.head _) _ e
theorem iter_range {x : Str} {p : Pos} {it : Addr} {a c : Int} {n : Nat} {z0 : Fz} (he : EnvOk sc env) (hx : isVar sc x) :
    IsIter prog w hT os0 sc env (.Name x p) (.ref it) n (fun i σ => (x, .val (.int (a + c * i))) :: σ) z0 (fun i h => IsRangeIter h it (a + c * i) ((n : Int) - i) c) [it] where
  stable i h h' hk hi := rangeIter_stable _ _ _ h h' hk hi
  there i h hi b hb := by
    obtain rfl := List.mem_singleton.mp hb
    exact ⟨_, hi, notPriv_fields rfl rfl (by decide)⟩
  step A σ kz z s i hr' hi S hz hI ho := by
    refine wpAny_pyNext_range_item hI (by (first | exact nq273 hi | omega)) fun h1 i1 hs1 => ⟨_, rfl, ?_⟩
    have kk : ∀ b o, b ∉ [it] → s.heap.get? b = some o → h1.get? b = some o := fun b o hb e => (hs1.2 b (fun q => hb (by rw [q]; exact .head _))).trans e
    have S1 := S.off (t := s.toks + 1) ho kk
    refine wpAny_of_eq (a := ()) rfl ?_
    have i2 : IsRangeIter h1 it (a + c * ((i + 1 : Nat) : Int)) ((n : Int) - ((i + 1 : Nat) : Int)) c := by
      have e1 : a + c * ((i + 1 : Nat) : Int) = a + c * i + c := by rw [Int.natCast_add, Int.mul_add]; simp [Int.add_assoc]
      have e2 : (n : Int) - ((i + 1 : Nat) : Int) = (n : Int) - i - 1 := by (first | exact nq274 | omega)
      rw [e1, e2]; exact i1
    exact bind_name (P := fun h => IsRangeIter h it (a + c * ((i + 1 : Nat) : Int)) ((n : Int) - ((i + 1 : Nat) : Int)) c) he S1 (fun b hb => ⟨by obtain rfl := List.mem_singleton.mp hb; exact ⟨_, i1, notPriv_fields rfl rfl (by decide)⟩, (ho b hb).kn, (ho b hb).zn⟩) (rangeIter_stable _ _ _) i2 (.int _ _) hx
  stop A σ kz z s hr' S hz hI ho := by
    refine wpAny_pyNext_range_end hr'.1 hI (by (first | exact nq275 | omega)) fun h1 hs1 => ⟨rfl, ?_⟩
    exact S.off (t := s.toks) ho fun b o hb e => hs1 b o (fun q => hb (by rw [q]; exact .head _)) e
  self A s i Q E hI q := wpAny_pyIter_rangeiter hI q

theorem range_end {scT : Scope} {x : Str} {p : Pos} {a b c : Int} {r : Addr} {t u v : Tok} {Q : Nat → (Nat → St → St) → St → Prop} {n : Nat} {z0 : Fz} (hx : isVar scT x) (S : Sim hT os0 sc env σ kz z s) (g : Grow kz z0 z)
    (hr : IsRange s.heap r a b c t u v) (hs : Builtin.Range.small a b c = true) (hn : Builtin.Range.rangeSize a b c = n) (q : Q n (fun i σ => (x, .val (.int (a + c * i))) :: σ) σ) :
    wpAny (model prog w) A (pyIter (.ref r)) (WatI prog w hT os0 sc scT (.Name x p) Q env kz z0) (fun _ _ => False) s := by
  refine wpAny_pyIter_range hr hs ⟨n, _, σ, z, _, _, g, S.more (t := s.toks) (get_push _), fun _ he => iter_range (a := a) (c := c) he hx, ?_, fun b hb => ?_, q⟩
  · have := Heap.get?_push_size s.heap (o := { cls := .type "range_iterator", data := .fields #[rawInt a, rawInt (Builtin.Range.rangeSize a b c), rawInt c] }) rfl
    rw [hn] at this
    show IsRangeIter _ _ (a + c * ((0 : Nat) : Int)) ((n : Int) - ((0 : Nat) : Int)) c
    rw [show a + c * ((0 : Nat) : Int) = a by simp, show (n : Int) - ((0 : Nat) : Int) = n by simp, hn]
    exact this
  · obtain rfl := List.mem_singleton.mp hb
    exact off_new S get_new (Heap.get?_push_size _ rfl) (notPriv_fields rfl rfl (by decide))

inductive KRg1 (x : Str) (Q : Nat → (Nat → St → St) → St → Prop) : List D → St → Prop where
  | mk {b : Int} {σ2 : St} : 0 ≤ b → b < 2 ^ 62 → Q b.toNat (fun (i : Nat) σ => (x, .val (.int (i : Int))) :: σ) σ2 → KRg1 x Q [.int b] σ2
inductive KRg2 (x : Str) (Q : Nat → (Nat → St → St) → St → Prop) : List D → St → Prop where
  | mk {a b : Int} {σ2 : St} : 0 ≤ a → a < 2 ^ 62 → 0 ≤ b → b < 2 ^ 62 → Q (b - a).toNat (fun (i : Nat) σ => (x, .val (.int (a + (i : Int)))) :: σ) σ2 → KRg2 x Q [.int a, .int b] σ2
inductive KRgD (x : Str) (Q : Nat → (Nat → St → St) → St → Prop) : List D → St → Prop where
  | mk {a : Int} {σ2 : St} : -1 ≤ a → a < 2 ^ 62 → Q (a + 1).toNat (fun (i : Nat) σ => (x, .val (.int (a - (i : Int)))) :: σ) σ2 → KRgD x Q [.int a, .int (-1), .int (-1)] σ2
section
variable {x : Str} {p p2 p3 : Pos} {e1 e2 e3 : Expr} {Q : Nat → (Nat → St → St) → St → Prop}
theorem WI.range1 {scT : Scope} (hx : varB scT x = true) (hg : gk sc "range" = true) (hst : plainL [e1] = true) (ht : TopVal hT "range" (.ty "range"))
    (h : WA prog w hT os0 k sc p3 [e1] σ (KRg1 x Q)) :
    WI prog w hT os0 k sc scT (.Name x p) (.Call (.Name "range" p2) [e1] [] p3) σ Q := by
  intro env A s kz z he hr hs
  refine Call_ ((WE.glob (Q := fun d σ1 => d = .ty "range" ∧ σ1 = σ) ht hg ⟨rfl, rfl⟩).step he hr hs fun v d σ1 z1 s1 g1 S1 r1 ⟨e1, e2⟩ => ?_)
  subst e1 e2
  cases r1
  refine PyProof.Rows.callWith_type1 (h.step he hr S1 fun vs ds σ2 z2 s2 g2 S2 r2 q => ?_) (plainL_head hst env)
  obtain @⟨b, _, b0, b1, q⟩ := q
  cases r2 with
  | cons r2 r3 =>
    cases r3; cases r2
    refine call_range_1 ?_
    refine range_end (n := b.toNat) (varB_at hx) (S2.more (get_push _)) (g1.trans g2) (IsRange.new ..) (small_one (by (first | exact nq276 | omega)) (by (first | exact nq277 | omega)) (by (first | exact nq101 b0 | omega)) b1) (by rw [rangeSize_one]; split <;> (first | (with_reducible first | exact nq278 b0 | exact nq279 ‹_›) | omega)) ?_
    have : (fun (i : Nat) (σ : St) => (x, LV.val (.int (0 + 1 * (i : Int)))) :: σ) = fun (i : Nat) σ => (x, LV.val (.int (i : Int))) :: σ := by funext i σ; simp
    rw [this]; exact q
theorem WI.range2 {scT : Scope} (hx : varB scT x = true) (hg : gk sc "range" = true) (hst : plainL [e1, e2] = true) (ht : TopVal hT "range" (.ty "range"))
    (h : WA prog w hT os0 k sc p3 [e1, e2] σ (KRg2 x Q)) :
    WI prog w hT os0 k sc scT (.Name x p) (.Call (.Name "range" p2) [e1, e2] [] p3) σ Q := by
  intro env A s kz z he hr hs
  refine Call_ ((WE.glob (Q := fun d σ1 => d = .ty "range" ∧ σ1 = σ) ht hg ⟨rfl, rfl⟩).step he hr hs fun v d σ1 z1 s1 g1 S1 r1 ⟨e1, e2⟩ => ?_)
  subst e1 e2
  cases r1
  refine PyProof.Rows.callWith_type1 (h.step he hr S1 fun vs ds σ2 z2 s2 g2 S2 r2 q => ?_) (plainL_head hst env) (plainL_any hst _ env)
  obtain @⟨a, b, _, a0, a1, b0, b1, q⟩ := q
  cases r2 with
  | cons r2 r3 =>
    cases r3 with
    | cons r3 r4 =>
      cases r4; cases r3; cases r2
      refine call_range_2 ?_
      refine range_end (n := (b - a).toNat) (varB_at hx) (S2.more (get_push _)) (g1.trans g2) (IsRange.new ..) (small_one (by (first | exact nq101 a0 | omega)) a1 (by (first | exact nq101 b0 | omega)) b1) (by rw [rangeSize_one]; split <;> (first | (with_reducible first | exact nq280 ‹_› | exact nq281 ‹_›) | omega)) ?_
      have : (fun (i : Nat) (σ : St) => (x, LV.val (.int (a + 1 * (i : Int)))) :: σ) = fun (i : Nat) σ => (x, LV.val (.int (a + (i : Int)))) :: σ := by funext i σ; simp
      rw [this]; exact q
theorem WI.rangeDown {scT : Scope} (hx : varB scT x = true) (hg : gk sc "range" = true) (hst : plainL [e1, e2, e3] = true) (ht : TopVal hT "range" (.ty "range"))
    (h : WA prog w hT os0 k sc p3 [e1, e2, e3] σ (KRgD x Q)) :
    WI prog w hT os0 k sc scT (.Name x p) (.Call (.Name "range" p2) [e1, e2, e3] [] p3) σ Q := by
  intro env A s kz z he hr hs
  refine Call_ ((WE.glob (Q := fun d σ1 => d = .ty "range" ∧ σ1 = σ) ht hg ⟨rfl, rfl⟩).step he hr hs fun v d σ1 z1 s1 g1 S1 r1 ⟨e1, e2⟩ => ?_)
  subst e1 e2
  cases r1
  refine PyProof.Rows.callWith_type1 (h.step he hr S1 fun vs ds σ2 z2 s2 g2 S2 r2 q => ?_) (plainL_head hst env) (plainL_any hst _ env)
  obtain @⟨a, _, a0, a1, q⟩ := q
  cases r2 with
  | cons r2 r3 =>
    cases r3 with
    | cons r3 r4 =>
      cases r4 with
      | cons r4 r5 =>
        cases r5; cases r4; cases r3; cases r2
        refine PySem.call_range_3 (by decide) ?_ (Or.inl (PyProof.noPylong_small (by decide)))
        refine range_end (n := (a + 1).toNat) (varB_at hx) (S2.more (get_push _)) (g1.trans g2) (IsRange.new ..) (W.small_down (by (first | exact nq282 a0 | omega)) a1 (by decide) (by decide)) (by rw [W.rangeSize_downNat]; (first | exact nq283 | omega)) ?_
        have : (fun (i : Nat) (σ : St) => (x, LV.val (.int (a + -1 * (i : Int)))) :: σ) = fun (i : Nat) σ => (x, LV.val (.int (a - (i : Int)))) :: σ := by funext i σ; simp [Int.sub_eq_add_neg]
        rw [this]; exact q
end
end
end Smith

end

section
namespace Smith

section
variable {prog : Program} {w : World} {hT : Heap} {os0 : OsState} {sc : Scope} {k : Nat} {σ : St} {env : Env} {kz z : Fz} {s : Shared} {fp : List Addr} {A : Around}

theorem ne_of_cls {h : Heap} {a b : Addr} {o o' : Obj} {u v : String} (ha : h.get? a = some o) (hb : h.get? b = some o') (hu : o.cls = .type u) (hv : o'.cls = .type v) (ne : u ≠ v) : a ≠ b := by
  rintro rfl
  rw [ha] at hb; cases hb; rw [hu] at hv; exact ne (Value.type.inj hv)
/-! ### enumerate over a list -/
inductive EnumSt (e it l : Addr) (i : Nat) (h : Heap) : Prop where
  | mk (old : Value) : IsEnum h e it (i : Int) old → h.IsListIter it l i → EnumSt e it l i h
theorem enum_stable {e it l : Addr} (i : Nat) : Stable [e, it] (EnumSt e it l i) := fun h h' hk ⟨old, a, o, b, c⟩ => ⟨old, hk e (.head _) _ a, o, hk it (.tail _ (.head _)) _ b, c⟩
theorem enum_there {e it l : Addr} {i : Nat} {h : Heap} (hi : EnumSt e it l i h) : ∀ b ∈ [e, it], ObjAt h b := by
  intro b hb
  obtain ⟨old, a, o, b1, c, d⟩ := hi
  rcases List.mem_cons.mp hb with rfl | hb
  · exact ⟨_, a, notPriv_fields rfl rfl (by decide)⟩
  · obtain rfl := List.mem_singleton.mp hb
    exact ⟨o, b1, notPriv_fields c d (by decide)⟩
theorem enum_ne {e it l : Addr} {i : Nat} {h : Heap} (hi : EnumSt e it l i h) : e ≠ it := by
  obtain ⟨old, a, o, b1, c, d⟩ := hi
  exact ne_of_cls a b1 rfl c (by decide)

theorem iter_enum {x y : Str} {p q t : Pos} {m : Nat} {e it l : Addr} {vs : List Value} {n : Nat} {ds : List D} {z0 : Fz} (he : EnvOk sc env) (hl : z0 l = some (lobj vs n)) (hr : RepL z0 vs ds) (hx : isVar sc x) (hy : isVar sc y) :
    IsIter prog w hT os0 sc env (.Tuple [.Name x p, .Name y q] m t) (.ref e) ds.length (fun i σ => (y, .val (ds[i]?.getD .none)) :: (x, .val (.int i)) :: σ) z0 (EnumSt e it l) [e, it] where
  stable i h h' hk hi := enum_stable i h h' hk hi
  there i h hi b hb := enum_there hi b hb
  step A σ kz z s i hr' hi S hz hI ho := by
    obtain ⟨v, hv, rv⟩ := hr.get (getD_of hi)
    have hne := enum_ne hI
    obtain ⟨old, ie, il⟩ := id hI
    refine wpAny_pyNext_enum_item (items := vs.toArray) ie il ⟨_, S.froz _ _ (hz _ _ hl), rfl, _, rfl⟩ (by simpa using hv) hne fun h1 heo hit ht hsz hk => ⟨_, rfl, ?_⟩
    have kk : ∀ b o, b ∉ [e, it] → s.heap.get? b = some o → h1.get? b = some o := fun b o hb e' => hk b o (fun q => hb (by rw [q]; exact .head _)) (fun q => hb (by rw [q]; exact .tail _ (.head _))) e'
    have S1 := S.off (t := s.toks + 1) ho kk
    refine wpAny_letOwnedTupleGo_enum heo fun h2 he2 hs2 => ?_
    have hs2' : Heap.SameBut e h1 h2 := hs2
    have o1 : Off kz z h1 [e, it] := fun b hb => ⟨by
      rcases List.mem_cons.mp hb with rfl | hb
      · exact ⟨_, heo, notPriv_fields rfl rfl (by decide)⟩
      · obtain rfl := List.mem_singleton.mp hb
        obtain ⟨o, a, b, c⟩ := hit; exact ⟨o, a, notPriv_fields b c (by decide)⟩, (ho b hb).kn, (ho b hb).zn⟩
    have S2 := S1.off (h' := h2) (t := s.toks + 1) o1 fun b o hb e' => (hs2'.2 b (fun q => hb (by rw [q]; exact .head _))).trans e'
    have i2 : EnumSt e it l (i + 1) h2 := ⟨v, by rw [show ((i + 1 : Nat) : Int) = (i : Int) + 1 by push_cast; rfl]; exact he2, hit.extBut hs2'.extBut (Ne.symm hne)⟩
    have hte : s.heap.objs.size ≠ e := Nat.ne_of_gt (Heap.lt_size ie)
    exact bind_pair (P := EnumSt e it l (i + 1)) hr'.1 he S2 (fun b hb => ⟨enum_there i2 b hb, (ho b hb).kn, (ho b hb).zn⟩) (enum_stable _) i2 ⟨_, (hs2'.2 _ hte).trans ht, rfl, _, rfl⟩ (.int _ _) (Rep.mono hz rv) hx hy
  stop A σ kz z s hr' S hz hI ho := by
    obtain ⟨old, ie, il⟩ := id hI
    refine wpAny_pyNext_enum_end (items := vs.toArray) hr'.1 ie il ⟨_, S.froz _ _ (hz _ _ hl), rfl, _, rfl⟩ (by simp [hr.length]) fun h1 hs1 => ⟨rfl, ?_⟩
    exact S.off (t := s.toks) ho fun b o hb e => hs1 b o (fun q => hb (by rw [q]; exact .tail _ (.head _))) e
  self A s i Q E hI q := by
    obtain ⟨old, ie, il⟩ := hI
    exact wpAny_pyIter_enum ie q

inductive KEnum (x y : Str) (Q : Nat → (Nat → St → St) → St → Prop) : List D → St → Prop where
  | mk {ds : List D} {σ2 : St} : Q ds.length (fun (i : Nat) σ => (y, .val (ds[i]?.getD .none)) :: (x, .val (.int (i : Int))) :: σ) σ2 → KEnum x y Q [.lst ds] σ2
theorem WI.enum {scT : Scope} {x y : Str} {p p' t p2 p3 : Pos} {m : Nat} {e1 : Expr} {Q : Nat → (Nat → St → St) → St → Prop} (hx : varB scT x = true) (hy : varB scT y = true) (hg : gk sc "enumerate" = true) (hst : plainL [e1] = true) (ht : TopVal hT "enumerate" (.ty "enumerate"))
    (h : WA prog w hT os0 k sc p3 [e1] σ (KEnum x y Q)) :
    WI prog w hT os0 k sc scT (.Tuple [.Name x p, .Name y p'] m t) (.Call (.Name "enumerate" p2) [e1] [] p3) σ Q := by
  intro env A s kz z he hr hs
  refine Call_ ((WE.glob (Q := fun d σ1 => d = .ty "enumerate" ∧ σ1 = σ) ht hg ⟨rfl, rfl⟩).step he hr hs fun v d σ1 z1 s1 g1 S1 r1 ⟨e1, e2⟩ => ?_)
  subst e1 e2
  cases r1
  refine PyProof.Rows.callWith_type1 (h.step he hr S1 fun vs es σ2 z2 s2 g2 S2 r2 q => ?_) (plainL_head hst env)
  obtain ⟨q⟩ := q
  cases r2 with
  | cons r2 r3 =>
    cases r3
    cases r2 with
    | lst ha hl =>
      refine call_enumerate_list (items := _) ⟨_, S2.froz _ _ ha, rfl, _, rfl⟩ fun h3 e3 i3 sz k3 => ?_
      refine wpAny_pyIter_enum e3 ?_
      have I0 : EnumSt (s2.heap.objs.size + 1) s2.heap.objs.size _ 0 h3 := ⟨_, e3, i3⟩
      refine ⟨_, _, σ2, z2, _, _, g1.trans g2, S2.more (t := s2.toks) k3, fun _ he => iter_enum (e := s2.heap.objs.size + 1) (it := s2.heap.objs.size) he ha hl (varB_at hx) (varB_at hy), I0, fun b hb => ?_, q⟩
      have hbn : s2.heap.get? b = none := by
        cases q : s2.heap.get? b with
        | none => rfl
        | some o =>
          have := Heap.lt_size q
          rcases List.mem_cons.mp hb with rfl | hb
          · exact absurd this (Nat.not_lt.mpr (Nat.le_succ _))
          · obtain rfl := List.mem_singleton.mp hb; exact absurd this (Nat.lt_irrefl _)
      obtain ⟨o, e, ho⟩ := enum_there I0 b hb
      exact off_new S2 hbn e ho

/-! ### zip of two lists -/
inductive ZipSt (Z TI TO i1 i2 l1 l2 : Addr) (i : Nat) (h : Heap) : Prop where
  | mk (a b : Value) : IsZip h Z TI TO .none → IsPair h TI (.ref i1) (.ref i2) → IsPair h TO a b → h.IsListIter i1 l1 i → h.IsListIter i2 l2 i → ZipSt Z TI TO i1 i2 l1 l2 i h
theorem zip_stable {Z TI TO i1 i2 l1 l2 : Addr} (i : Nat) : Stable [Z, TI, TO, i1, i2] (ZipSt Z TI TO i1 i2 l1 l2 i) := by
  rintro h h' hk ⟨u, v, a, b, c, ⟨o, d1, d2⟩, o', e1, e2⟩
  exact ⟨u, v, hk _ (by simp) _ a, hk _ (by simp) _ b, hk _ (by simp) _ c, ⟨o, hk _ (by simp) _ d1, d2⟩, o', hk _ (by simp) _ e1, e2⟩
theorem notPriv_tup {vs : Array Value} {n : Nat} : NotPriv { cls := .type "tuple", data := .seq vs n } := ⟨fun q => absurd (Value.type.inj q) (by decide), fun _ _ q => (by cases q), fun _ q => (by cases q)⟩
theorem zip_there {Z TI TO i1 i2 l1 l2 : Addr} {i : Nat} {h : Heap} (hi : ZipSt Z TI TO i1 i2 l1 l2 i h) : ∀ b ∈ [Z, TI, TO, i1, i2], ObjAt h b := by
  obtain ⟨u, v, a, b, c, ⟨o, d1, d2, d3⟩, o', e1, e2, e3⟩ := hi
  intro x hx
  simp only [List.mem_cons, List.not_mem_nil, or_false] at hx
  rcases hx with rfl | rfl | rfl | rfl | rfl
  · exact ⟨_, a, notPriv_fields rfl rfl (by decide)⟩
  · exact ⟨_, b, notPriv_tup⟩
  · exact ⟨_, c, notPriv_tup⟩
  · exact ⟨o, d1, notPriv_fields d2 d3 (by decide)⟩
  · exact ⟨o', e1, notPriv_fields e2 e3 (by decide)⟩
/-- the parts of a zip and its lists lie apart -/
theorem zip_apart {Z TI TO i1 i2 l1 l2 : Addr} {i : Nat} {h : Heap} (hi : ZipSt Z TI TO i1 i2 l1 l2 i h) (ho : Off kz z h [Z, TI, TO, i1, i2]) {v1 v2 : List Value} {n1 n2 : Nat} (h1 : z l1 = some (lobj v1 n1)) (h2 : z l2 = some (lobj v2 n2))
    (ht : TI ≠ TO) (h12 : i1 ≠ i2) : ZipApart Z TI TO i1 i2 l1 l2 := by
  obtain ⟨u, v, a, b, c, ⟨o, d1, d2, d3⟩, o', e1, e2, e3⟩ := hi
  have L : ∀ {x l vs n}, x ∈ [Z, TI, TO, i1, i2] → z l = some (lobj vs n) → l ≠ x := fun {x l vs n} hx hl q => by
    rw [← q] at hx; rw [(ho _ hx).zn] at hl; cases hl
  refine ⟨?_, ?_, ?_, ?_, ht, ?_, ?_, ?_, ?_, h12, L (by simp) h1, L (by simp) h1, L (by simp) h1, L (by simp) h1, L (by simp) h2, L (by simp) h2, L (by simp) h2, L (by simp) h2⟩
  · exact ne_of_cls b a rfl rfl (by decide)
  · exact ne_of_cls c a rfl rfl (by decide)
  · exact ne_of_cls d1 a d2 rfl (by decide)
  · exact ne_of_cls e1 a e2 rfl (by decide)
  · exact ne_of_cls b d1 rfl d2 (by decide)
  · exact ne_of_cls b e1 rfl e2 (by decide)
  · exact ne_of_cls c d1 rfl d2 (by decide)
  · exact ne_of_cls c e1 rfl e2 (by decide)

theorem iter_zip {x y : Str} {p q t : Pos} {m : Nat} {Z TI TO i1 i2 l1 l2 : Addr} {v1 v2 : List Value} {n1 n2 : Nat} {d1 d2 : List D} {z0 : Fz} (he : EnvOk sc env) (hl1 : z0 l1 = some (lobj v1 n1)) (hl2 : z0 l2 = some (lobj v2 n2))
    (hr1 : RepL z0 v1 d1) (hr2 : RepL z0 v2 d2) (hx : isVar sc x) (hy : isVar sc y) (ht : TI ≠ TO) (h12 : i1 ≠ i2) (hlen : d1.length = d2.length) :
    IsIter prog w hT os0 sc env (.Tuple [.Name x p, .Name y q] m t) (.ref Z) d1.length (fun i σ => (y, .val (d2[i]?.getD .none)) :: (x, .val (d1[i]?.getD .none)) :: σ) z0 (ZipSt Z TI TO i1 i2 l1 l2) [Z, TI, TO, i1, i2] where
  stable i h h' hk hi := zip_stable i h h' hk hi
  there i h hi b hb := zip_there hi b hb
  step A σ kz z s i hr' hi S hz hI ho := by
    obtain ⟨u, hu, ru⟩ := hr1.get (getD_of hi)
    obtain ⟨v, hv, rv⟩ := hr2.get (getD_of (hlen ▸ hi))
    have D0 := zip_apart hI ho (hz _ _ hl1) (hz _ _ hl2) ht h12
    obtain ⟨a', b', a, b, c, d, e⟩ := id hI
    refine wpAny_pyNext_zip_item (xs := v1.toArray) (ys := v2.toArray) D0 a b c d e ⟨_, S.froz _ _ (hz _ _ hl1), rfl, _, rfl⟩ ⟨_, S.froz _ _ (hz _ _ hl2), rfl, _, rfl⟩ (by simpa using hu) (by simpa using hv) fun h1 f1 f2 f3 f4 f5 f6 f7 => ⟨_, rfl, ?_⟩
    have kk : ∀ b o, b ∉ [Z, TI, TO, i1, i2] → s.heap.get? b = some o → h1.get? b = some o := fun b o hb e' => by
      simp only [List.mem_cons, List.not_mem_nil, or_false, not_or] at hb
      exact f7 b o hb.1 hb.2.2.1 hb.2.2.2.1 hb.2.2.2.2 e'
    have S1 := S.off (t := s.toks) ho kk
    have b1 : IsPair h1 TI (.ref i1) (.ref i2) := f7 _ _ D0.TIz D0.TITO D0.TIi1 D0.TIi2 b
    refine wpAny_letOwnedTupleGo_zip f1 fun h2 he2 hs2 => ?_
    have hs2' : Heap.SameBut Z h1 h2 := hs2
    have o1 : Off kz z h1 [Z, TI, TO, i1, i2] := fun c hc => ⟨by
      simp only [List.mem_cons, List.not_mem_nil, or_false] at hc
      obtain ⟨o, d1, d2, d3⟩ := f3
      obtain ⟨o', e1, e2, e3⟩ := f4
      rcases hc with rfl | rfl | rfl | rfl | rfl
      · exact ⟨_, f1, notPriv_fields rfl rfl (by decide)⟩
      · exact ⟨_, b1, notPriv_tup⟩
      · exact ⟨_, f2, notPriv_tup⟩
      · exact ⟨o, d1, notPriv_fields d2 d3 (by decide)⟩
      · exact ⟨o', e1, notPriv_fields e2 e3 (by decide)⟩, (ho c hc).kn, (ho c hc).zn⟩
    have S2 := S1.off (h' := h2) (t := s.toks) o1 fun b o hb e' => (hs2'.2 b (fun q => hb (by rw [q]; exact .head _))).trans e'
    have i2' : ZipSt Z TI TO i1 i2 l1 l2 (i + 1) h2 := ⟨_, _, he2, (hs2'.2 _ D0.TIz).trans b1, (hs2'.2 _ D0.TOz).trans f2, f3.extBut hs2'.extBut D0.i1z, f4.extBut hs2'.extBut D0.i2z⟩
    have hte : s.heap.objs.size ≠ Z := Nat.ne_of_gt (Heap.lt_size a)
    exact bind_pair (P := ZipSt Z TI TO i1 i2 l1 l2 (i + 1)) hr'.1 he S2 (fun b hb => ⟨zip_there i2' b hb, (ho b hb).kn, (ho b hb).zn⟩) (zip_stable _) i2' ⟨_, (hs2'.2 _ hte).trans f5, rfl, _, rfl⟩ (Rep.mono hz ru) (Rep.mono hz rv) hx hy
  stop A σ kz z s hr' S hz hI ho := by
    have D0 := zip_apart hI ho (hz _ _ hl1) (hz _ _ hl2) ht h12
    obtain ⟨a', b', a, b, c, d, e⟩ := id hI
    refine wpAny_pyNext_zip_end (xs := v1.toArray) (ys := v2.toArray) hr'.1 D0 a b c d e ⟨_, S.froz _ _ (hz _ _ hl1), rfl, _, rfl⟩ ⟨_, S.froz _ _ (hz _ _ hl2), rfl, _, rfl⟩ (.inl (by simp [hr1.length])) fun h1 hs1 => ⟨rfl, ?_⟩
    exact S.off (t := s.toks) ho fun b o hb e => by
      simp only [List.mem_cons, List.not_mem_nil, or_false, not_or] at hb
      exact hs1 b o hb.1 hb.2.2.1 hb.2.2.2.1 hb.2.2.2.2 e
  self A s i Q E hI q := let ⟨_, _, a, _, _, _, _⟩ := hI; wpAny_pyIter_zip a q

inductive KZip (x y : Str) (Q : Nat → (Nat → St → St) → St → Prop) : List D → St → Prop where
  | mk {d1 d2 : List D} {σ2 : St} : d1.length = d2.length → Q d1.length (fun (i : Nat) σ => (y, .val (d2[i]?.getD .none)) :: (x, .val (d1[i]?.getD .none)) :: σ) σ2 → KZip x y Q [.lst d1, .lst d2] σ2
theorem WI.zip {scT : Scope} {x y : Str} {p p' t p2 p3 : Pos} {m : Nat} {e1 e2 : Expr} {Q : Nat → (Nat → St → St) → St → Prop} (hx : varB scT x = true) (hy : varB scT y = true) (hg : gk sc "zip" = true) (hst : plainL [e1, e2] = true) (ht : TopVal hT "zip" (.ty "zip"))
    (h : WA prog w hT os0 k sc p3 [e1, e2] σ (KZip x y Q)) :
    WI prog w hT os0 k sc scT (.Tuple [.Name x p, .Name y p'] m t) (.Call (.Name "zip" p2) [e1, e2] [] p3) σ Q := by
  intro env A s kz z he hr hs
  refine Call_ ((WE.glob (Q := fun d σ1 => d = .ty "zip" ∧ σ1 = σ) ht hg ⟨rfl, rfl⟩).step he hr hs fun v d σ1 z1 s1 g1 S1 r1 ⟨e1, e2⟩ => ?_)
  subst e1 e2
  cases r1
  refine PyProof.Rows.callWith_type1 (h.step he hr S1 fun vs es σ2 z2 s2 g2 S2 r2 q => ?_) (plainL_head hst env) (plainL_any hst _ env)
  obtain ⟨hlen, q⟩ := q
  cases r2 with
  | cons r2 r3 =>
    cases r3 with
    | cons r3 r4 =>
      cases r4
      cases r2 with
      | lst ha hl =>
        cases r3 with
        | lst hb hl' =>
          refine call_zip_2 (xs := _) (ys := _) ⟨_, S2.froz _ _ ha, rfl, _, rfl⟩ ⟨_, S2.froz _ _ hb, rfl, _, rfl⟩ fun h3 f1 f2 f3 f4 f5 f6 k3 => ?_
          refine wpAny_pyIter_zip f1 ?_
          have I0 : ZipSt (s2.heap.objs.size + 4) (s2.heap.objs.size + 2) (s2.heap.objs.size + 3) s2.heap.objs.size (s2.heap.objs.size + 1) _ _ 0 h3 := ⟨_, _, f1, f2, f3, f4, f5⟩
          refine ⟨_, _, σ2, z2, _, _, g1.trans g2, S2.more (t := s2.toks) k3, fun _ he => iter_zip he ha hb hl hl' (varB_at hx) (varB_at hy) (Nat.ne_of_lt (Nat.lt_succ_self _)) (Nat.ne_of_lt (Nat.lt_succ_self _)) hlen, I0, fun b hb => ?_, q⟩
          have hbn : s2.heap.get? b = none := by
            cases q : s2.heap.get? b with
            | none => rfl
            | some o =>
              have := Heap.lt_size q
              simp only [List.mem_cons, List.not_mem_nil, or_false] at hb
              have nl : ∀ j : Nat, ¬ (s2.heap.objs.size + j < s2.heap.objs.size) := fun j => Nat.not_lt.mpr (Nat.le_add_right _ _)
              rcases hb with rfl | rfl | rfl | rfl | rfl
              · exact absurd this (nl 4)
              · exact absurd this (nl 2)
              · exact absurd this (nl 3)
              · exact absurd this (nl 0)
              · exact absurd this (nl 1)
          obtain ⟨o, e, ho⟩ := zip_there I0 b hb
          exact off_new S2 hbn e ho
end
end Smith

end

section
namespace Smith

section
variable {prog : Program} {w : World} {hT : Heap} {os0 : OsState} {sc : Scope} {k : Nat} {σ : St} {env : Env} {kz z : Fz} {s : Shared} {A : Around}

noncomputable def pidx (j : Int) (n : Nat) : Nat := if j < 0 then (j + n).toNat else j.toNat
theorem getItem_any {l : Addr} {vs : List Value} {n : Nat} {j : Int} {t : Tok} {v : Value} {E : Value → Shared → Prop} {Q : Value → Shared → Prop} (hl : s.heap.get? l = some (lobj vs n)) (h1 : -(vs.length : Int) ≤ j) (h2 : -(2 ^ 63) ≤ j) (h3 : j < 2 ^ 63)
    (hv : vs[pidx j vs.length]? = some v) (h : Q v s) : wpAny (model prog w) A (getItem (.ref l) (.int j t)) Q E s := by
  unfold pidx at hv
  split at hv
  · rename_i hj
    exact wpAny_getItem_list_neg (items := vs.toArray) ⟨_, hl, rfl, _, rfl⟩ hj (by simpa using h1) h2 (by simpa using hv) h
  · rename_i hj
    exact wpAny_getItem_list (items := vs.toArray) ⟨_, hl, rfl, _, rfl⟩ (by (first | exact nq284 hj | omega)) h3 (by simpa using hv) h

/-- an item of a list or a tuple -/
inductive ItemOf : D → Int → D → Prop where
  | lst {ds : List D} {j : Int} {d : D} : -(ds.length : Int) ≤ j → -(2 ^ 63) ≤ j → j < 2 ^ 63 → ds[pidx j ds.length]? = some d → ItemOf (.lst ds) j d
  | tup {ds : List D} {j : Nat} {d : D} : (j : Int) < 2 ^ 63 → ds[j]? = some d → ItemOf (.tup ds) j d

inductive KItem2 (d1 : D) (Q : D → St → Prop) : D → St → Prop where
  | mk {j : Int} {d : D} {σ2 : St} : ItemOf d1 j d → Q d σ2 → KItem2 d1 Q (.int j) σ2
section
variable (prog : Program) (w : World) (hT : Heap) (os0 : OsState) (sc : Scope) (k : Nat)
abbrev KItem1 (i : Expr) (Q : D → St → Prop) : D → St → Prop := fun d1 σ1 => WE prog w hT os0 k sc i σ1 (KItem2 d1 Q)
end
theorem WE.item {v i : Expr} {pos} {Q : D → St → Prop}
    (hs : (kindE i != 2) = true)
    (h : WE prog w hT os0 k sc v σ (KItem1 prog w hT os0 sc k i Q)) :
    WE prog w hT os0 k sc (.Subscript v i pos) σ Q := fun env A s kz z he hr hs0 =>
  Subscript_ (h.step he hr hs0 fun v1 d1 σ1 z1 s1 g1 S1 r1 h1 => h1.step he hr S1 fun v2 d2 σ2 z2 s2 g2 S2 r2 q => by
    obtain ⟨hi, q⟩ := q
    obtain ⟨t, rfl⟩ := rep_int r2
    have r1 := Rep.mono g2.1 r1
    cases hi with
    | lst a1 a2 a3 a4 =>
      cases r1 with
      | lst ha hl =>
        obtain ⟨u, hu, ru⟩ := hl.get a4
        rw [← hl.length] at a1 hu
        have hh := S2.froz _ _ ha
        exact tail_any (T := "list") ⟨_, hh, rfl⟩ slot_list_getitem.lookup (getItem_any hh a1 a2 a3 hu ⟨_, σ2, z2, g1.trans g2, S2, ru, q⟩) (no_slice hs _ _ _)
    | @tup ds j d a1 a2 =>
      cases r1 with
      | @tup _ vs n _ ha hl =>
        obtain ⟨u, hu, ru⟩ := hl.get a2
        have hh := S2.froz _ _ ha
        have hj : j < vs.length := (List.getElem?_eq_some_iff.mp hu).1
        exact tail_any (T := "tuple") ⟨_, hh, rfl⟩ F.slot_tuple_getitem.lookup (PyProof.Rows.getItem_tuple (items := vs.toArray) (j := j) ⟨_, hh, rfl, _, rfl⟩ (by (first | exact nq285 | omega)) a1 (by
          have hn : ¬ ((j : Int) < 0) := by (first | exact nq286 | omega)
          simp [seqIndex?, hn, hj]) (by simpa using hu) ⟨_, σ2, z2, g1.trans g2, S2, ru, q⟩) (no_slice hs _ _ _))


theorem Sim.pin {x : Str} {a : Addr} {pn : Option Addr} {xs : List D} {m : Str → Option Value} (S : Sim hT os0 sc env σ kz z s) (hx : σ.lookup x = some (.own pn xs)) (hm : s.heap.Ns env.locals m) (hv : Var sc env kz s.heap m x (.ref a)) :
    Sim hT os0 sc env ((x, .own (some a) xs) :: σ) kz z s := by
  obtain ⟨k1, k2, k3, k4, k5, k6, k7, k8, k9, m', α, h1, h2, h3⟩ := S
  obtain rfl := ns_fun hm h1
  have va : ∀ {v}, Var sc env kz s.heap m x v → v = .ref a := by
    rintro v (⟨b1, b2⟩ | ⟨ca, b1, b2, o, b3, b4⟩ | ⟨ca, o, b1, b2, b3, b4⟩) <;> rcases hv with ⟨c1, c2⟩ | ⟨cb, c1, c2, o', c3, c4⟩ | ⟨cb, o', c1, c2, c3, c4⟩ <;> (try (rw [b1] at c1; cases c1))
    · rw [b2] at c2; exact Option.some.inj c2
    · rw [b2] at c2; cases c2; rw [b3] at c3; cases c3; rw [b4] at c4; injection c4 with c4; exact Option.some.inj c4
    · rw [b2] at c2; cases c2; rw [b3] at c3; cases c3; rw [b4] at c4; injection c4 with c4; exact Option.some.inj c4
  obtain ⟨u, hu, hH⟩ := h2 x _ hx
  obtain rfl := va hu
  have ha : α x = a := by obtain ⟨e, _⟩ := hH; exact (Value.ref.inj e).symm
  refine ⟨k1, k2, k3, k4, k5, k6, k7, k8, k9, m, α, h1, fun y l e => ?_, fun y y' p q xs1 ys1 e e' => ?_⟩
  · rcases look_cons e with ⟨rfl, rfl⟩ | ⟨e1, e2⟩
    · obtain ⟨c1, c2, c3, c4, _⟩ := hH
      exact ⟨_, hu, c1, c2, c3, c4, fun b q => by cases q; exact ha⟩
    · exact h2 y l e2
  · have red : ∀ {y p' ys}, ((x, LV.own (some a) xs) :: σ).lookup y = some (.own p' ys) → ∃ p'' ys', σ.lookup y = some (.own p'' ys') := by
      intro y p' ys e
      rcases look_cons e with ⟨rfl, _⟩ | ⟨_, e2⟩
      · exact ⟨_, _, hx⟩
      · exact ⟨_, _, e2⟩
    obtain ⟨_, _, f1⟩ := red e
    obtain ⟨_, _, f2⟩ := red e'
    exact h3 y y' _ _ _ _ f1 f2
theorem Sim.unpin {x : Str} {a : Addr} {pn : Option Addr} {xs : List D} (S : Sim hT os0 sc env ((x, .own (some a) xs) :: σ) kz z s) (hp : ∀ b, pn = some b → a = b) :
    Sim hT os0 sc env ((x, .own pn xs) :: σ) kz z s := by
  obtain ⟨k1, k2, k3, k4, k5, k6, k7, k8, k9, m, α, h1, h2, h3⟩ := S
  have cv : ∀ {y l}, ((x, LV.own pn xs) :: σ).lookup y = some l → (y = x ∧ l = .own pn xs) ∨ ((x, LV.own (some a) xs) :: σ).lookup y = some l := by
    intro y l e
    rcases look_cons e with h | ⟨e1, e2⟩
    · exact .inl h
    · right
      rw [List.lookup_cons, show (y == x) = false by simpa using e1]; exact e2
  have hx : ((x, LV.own (some a) xs) :: σ).lookup x = some (.own (some a) xs) := by simp
  refine ⟨k1, k2, k3, k4, k5, k6, k7, k8, k9, m, α, h1, fun y l e => ?_, fun y y' p q xs1 ys1 e e' => ?_⟩
  · rcases cv e with ⟨rfl, rfl⟩ | e
    · obtain ⟨u, hu, c1, c2, c3, c4, c5⟩ := h2 y _ hx
      exact ⟨u, hu, c1, c2, c3, c4, fun b q => (c5 a rfl).trans (hp b q)⟩
    · exact h2 y l e
  · have red : ∀ {y p' ys}, ((x, LV.own pn xs) :: σ).lookup y = some (.own p' ys) → ∃ p'' ys', ((x, LV.own (some a) xs) :: σ).lookup y = some (.own p'' ys') := by
      intro y p' ys e
      rcases cv e with ⟨rfl, _⟩ | e2
      · exact ⟨_, _, hx⟩
      · exact ⟨_, _, e2⟩
    obtain ⟨_, _, f1⟩ := red e
    obtain ⟨_, _, f2⟩ := red e'
    exact h3 y y' _ _ _ _ f1 f2
theorem sub_self {x : Str} {l : LV} (h : σ.lookup x = some l) (nd : True) : ∀ y l', σ.lookup y = some l' → ((x, l) :: σ).lookup y = some l' := fun y l' e => by
  rw [List.lookup_cons]
  by_cases hy : y = x
  · subst hy; rw [h] at e; cases e; simp
  · rw [show (y == x) = false by simpa using hy]; exact e
theorem Sim.sub' {σ' : St} (S : Sim hT os0 sc env σ kz z s) (h : ∀ y l, σ'.lookup y = some l → σ.lookup y = some l) : Sim hT os0 sc env σ' kz z s := by
  obtain ⟨a, b, c, c', d, e, f, g, i, m, α, hL, hv, hd⟩ := S
  exact ⟨a, b, c, c', d, e, f, g, i, m, α, hL, fun x lv q => hv x lv (h _ _ q), fun x y i j xs ys p q => hd x y i j xs ys (h _ _ p) (h _ _ q)⟩
theorem Sim.unpin' {x : Str} {a : Addr} {pn : Option Addr} {xs : List D} (S : Sim hT os0 sc env ((x, .own (some a) xs) :: σ) kz z s) (hx : σ.lookup x = some (.own pn xs)) (hp : ∀ b, pn = some b → a = b) :
    Sim hT os0 sc env σ kz z s := (S.unpin hp).sub' (sub_self hx trivial)

inductive KItemOwn (x : Str) (a : Addr) (xs : List D) (σ : St) (Q : D → St → Prop) : D → St → Prop where
  | mk {j : Int} {d : D} : -(xs.length : Int) ≤ j → -(2 ^ 63) ≤ j → j < 2 ^ 63 → xs[pidx j xs.length]? = some d → Q d σ → KItemOwn x a xs σ Q (.int j) ((x, .own (some a) xs) :: σ)
/-- an item of a list of one's own -/
theorem WE.itemOwn {x : Str} {p : Pos} {i : Expr} {pos} {pn : Option Addr} {xs : List D} {Q : D → St → Prop} (hx : look σ x = some (.own pn xs)) (hs : (kindE i != 2) = true)
    (h : ∀ a, WE prog w hT os0 k sc i ((x, .own (some a) xs) :: σ) (KItemOwn x a xs σ Q)) :
    WE prog w hT os0 k sc (.Subscript (.Name x p) i pos) σ Q := by
  intro env A s kz z he hr hs0
  obtain ⟨hx, hd, hn⟩ := look_at hx
  obtain ⟨a, vs, n, m, hm, hv, hg, hrep, hk, hz, hp, _, _⟩ := hs0.own hx
  refine Subscript_ (wpAny_Name (load_var he hs0.keep hm hv ?_ hn) hd)
  refine (h a).step he hr (hs0.pin hx hm hv) fun v2 d2 σ2 z2 s2 g2 S2 r2 q => ?_
  obtain ⟨a1, a2, a3, a4, q⟩ := q
  obtain ⟨t, rfl⟩ := rep_int r2
  obtain ⟨a', vs', n', _, _, _, hg', hrep', _, _, hp', _, _⟩ := S2.own (x := x) (p := some a) (xs := xs) (by simp)
  obtain rfl : a' = a := hp' a rfl
  obtain ⟨u, hu, ru⟩ := hrep'.get a4
  rw [← hrep'.length] at a1 hu
  exact tail_any (T := "list") ⟨_, hg', rfl⟩ slot_list_getitem.lookup (getItem_any hg' a1 a2 a3 hu ⟨_, σ, z2, g2, S2.unpin' hx hp, ru, q⟩) (no_slice hs _ _ _)

/-! ### a store into a list of one's own -/
theorem setItem_exact {l : Addr} {vs : List Value} {n : Nat} {j : Int} {t : Tok} {v : Value} {E : Value → Shared → Prop} {Q : Unit → Shared → Prop} (hl : s.heap.get? l = some (lobj vs n)) (h0 : 0 ≤ j) (h1 : j < vs.length) (hfit : j < 2 ^ 63)
    (h : Q () { s with heap := s.heap.update l (Obj.mapSeq (·.setIfInBounds j.toNat v)) }) : wpAny (model prog w) A (setItem (.ref l) (.int j t) v) Q E s := by
  have hT : s.TypeIs (.ref l) "list" := ⟨_, hl, rfl⟩
  have hfi : Builtin.List.listFitsIndex j = true := fitsIndex_of h0 hfit
  clear hfit
  unfold setItem
  try with_reducible refine wpAny_holding ?_
  refine wpAny_bind (wpAny_sequenceKey hT (by decide) ?_)
  refine wpAny_bind (wpAny_callSpecial?_slot (name := Str.ofString "__setitem__") hT slot_list_setitem (wpAny_call_entry slot_list_setitem hT entry_list_setitem ?_ (args_list_setitem _ _ _)))
  show wpAny _ _ (Builtin.List.listSubscript? (.int j t) >>= _) _ _ s
  refine wpAny_bind (wpAny_listSubscript_int hfi ?_)
  clear hfi
  obtain ⟨i, rfl⟩ := Int.eq_ofNat_of_zero_le h0
  have hj : i < vs.toArray.size := by simp; (first | exact nq67 h1 | omega)
  show wpAny _ _ ((seqItemAt l i >>= fun r => pure (r.map (i, ·))) >>= _) _ _ s
  refine wpAny_bind (wpAny_bind (wpAny_seqItemAt hl rfl (wpAny_pure ?_)))
  rw [Array.getElem?_eq_getElem hj]
  show wpAny _ _ (setSeqItemAt l i v >>= _) _ _ s
  refine wpAny_bind (wpAny_setSeqItemAt hl rfl ?_)
  first
    | exact wpAny_bind (wpAny_pure (wpAny_pure ⟨.none, rfl, wpAny_pure h⟩))
    | exact wpAny_pure ⟨.none, rfl, wpAny_pure h⟩
end
end Smith

end

section
namespace Smith

section
variable {prog : Program} {w : World} {hT : Heap} {os0 : OsState} {sc : Scope} {k : Nat} {σ : St} {env : Env} {kz z : Fz} {s : Shared} {A : Around}

theorem mapSeq_list {h : Heap} {l : Addr} {vs : List Value} {n : Nat} (f : Array Value → Array Value) (hl : h.get? l = some (lobj vs n)) :
    ∃ n', (h.update l (Obj.mapSeq f)).get? l = some (lobj (f vs.toArray).toList n') := by
  refine ⟨if (f vs.toArray).size == vs.toArray.size then n else n + 1, ?_⟩
  rw [Heap.get?_update_self _ hl rfl]
  simp [lobj, Obj.mapSeq]

inductive KIdx (x : Str) (a : Addr) (xs : List D) (σ : St) (K : Int → Prop) : D → St → Prop where
  | mk {j : Int} : K j → KIdx x a xs σ K (.int j) ((x, .own (some a) xs) :: σ)
/-- an index into a list of one's own, the list's address held -/
def Idx (prog : Program) (w : World) (hT : Heap) (os0 : OsState) (k : Nat) (sc : Scope) (i : Expr) (x : Str) (xs : List D) (σ : St) (K : Int → Prop) : Prop :=
  ∀ a, WE prog w hT os0 k sc i ((x, .own (some a) xs) :: σ) (KIdx x a xs σ K)

theorem sub_store {x : Str} {p : Pos} {i : Expr} {pn : Option Addr} {xs : List D} {v : Value} {d : D} {K : Int → Prop} {X : Shared → Prop} (he : EnvOk sc env) (hr : Room k A) (S : Sim hT os0 sc env σ kz z s) (hx : look σ x = some (.own pn xs)) (r : Rep z v d)
    (h : Idx prog w hT os0 k sc i x xs σ fun j => 0 ≤ j ∧ j < xs.length ∧ j < 2 ^ 63 ∧ K j)
    (f : ∀ j z' s', K j → Grow kz z z' → Sim hT os0 sc env ((x, .own pn (xs.set j.toNat d)) :: σ) kz z' s' → X s') :
    wpAny (model prog w) A (eval (.Name x p) env) (fun ov s2 => wpAny (model prog w) A (eval i env) (fun iv s3 => wpAny (model prog w) A (setItem ov iv v) (fun _ s4 => X s4) (fun _ _ => False) s3) (fun _ _ => False) s2) (fun _ _ => False) s := by
  obtain ⟨hx, hd, hn⟩ := look_at hx
  obtain ⟨a, vs, n, m, hm, hv, hg, hrep, hk, hz, hp, _, _⟩ := S.own hx
  refine wpAny_Name (load_var he S.keep hm hv ?_ hn) hd
  refine (h a).step he hr (S.pin hx hm hv) fun v2 d2 σ2 z2 s2 g2 S2 r2 q => ?_
  obtain @⟨j, a1, a2, a3, kj⟩ := q
  obtain ⟨t, rfl⟩ := rep_int r2
  obtain ⟨a', vs', n', _, _, _, hg', hrep', _, _, hp', upd, _⟩ := S2.own (x := x) (p := some a) (xs := xs) (by simp)
  obtain rfl : a' = a := hp' a rfl
  refine setItem_exact hg' a1 (by rw [hrep'.length]; exact a2) a3 ?_
  obtain ⟨n2, hu⟩ := mapSeq_list (·.setIfInBounds j.toNat v) hg'
  have hset : ((vs'.toArray).setIfInBounds j.toNat v).toList = vs'.set j.toNat v := by simp
  rw [hset] at hu
  refine f j z2 _ kj g2 ?_
  have S4 := upd _ s2.toks _ n2 _ (fun b o hb e => by rw [Heap.get?_update_other _ _ (Ne.symm hb)]; exact e) hu (hrep'.set j.toNat (r.mono g2.1))
  refine Sim.sub' (S4.unpin hp) fun y l e => ?_
  rcases look_cons e with ⟨rfl, rfl⟩ | ⟨e1, e2⟩
  · simp
  · rw [List.lookup_cons, show (y == x) = false by simpa using e1]
    show ((x, LV.own (some a') xs) :: σ).lookup y = _
    rw [List.lookup_cons, show (y == x) = false by simpa using e1]; exact e2

inductive KSetI (prog : Program) (w : World) (hT : Heap) (os0 : OsState) (k : Nat) (sc : Scope) (x : Str) (i : Expr) (Q : Fl → St → Prop) (d : D) (σ1 : St) : Prop where
  | mk (pn : Option Addr) (xs : List D) : look σ1 x = some (.own pn xs) → (Idx prog w hT os0 k sc i x xs σ1 fun j => 0 ≤ j ∧ j < xs.length ∧ j < 2 ^ 63 ∧ Q .next ((x, .own pn (xs.set j.toNat d)) :: σ1)) → KSetI prog w hT os0 k sc x i Q d σ1
theorem WX.setItem {x : Str} {p : Pos} {e i : Expr} {p2 pos : Pos} {Q : Fl → St → Prop}
    (hs : (kindE e != 3) = true)
    (h : WE prog w hT os0 k sc e σ (KSetI prog w hT os0 k sc x i Q)) :
    WX prog w hT os0 k sc (.Assign [.Subscript (.Name x p) i p2] e pos) σ Q := fun env A s kz z he hr S =>
  wpAny_Assign_Subscript (h.step he hr S fun v d σ1 z1 s1 g1 S1 r1 ⟨pn, xs, hx, hi⟩ =>
    sub_store he hr S1 hx r1 hi (fun j z' s' q g' S' => ⟨.next, _, z', g1.trans g', S', .next, q⟩)) (no_swap hs _ _ env)

/-- x.append(e) -/
theorem WX.append {x : Str} {e : Expr} {p1 p2 p3 p4 : Pos} {pn : Option Addr} {xs : List D} {Q : Fl → St → Prop} (hx : look σ x = some (.own pn xs)) (hst : (kindE e != 1) = true) {pl : Env → Sem Bool}
    (hc : ∀ env, eval (.Call (.Attribute (.Name x p1) "append" p2) [e] [] p3) env = (do
      let ov ← eval (.Name x p1) env
      standAt p2.atName
      let (f, first) ← holding [ov] (getMethod ov "append" (pl env))
      callWith p3 f first (backTo p3 (starEach [e] env)) [])) (hsz : xs.length < sizeLine)
    (h : ∀ a, WE prog w hT os0 k sc e ((x, .own (some a) xs) :: σ) fun d σ2 => σ2 = (x, .own (some a) xs) :: σ ∧ Q .next ((x, .own pn (xs ++ [d])) :: σ)) :
    WX prog w hT os0 k sc (.Expr (.Call (.Attribute (.Name x p1) "append" p2) [e] [] p3) p4) σ Q := by
  intro env A s kz z he hr S
  obtain ⟨hx, hd, hn⟩ := look_at hx
  obtain ⟨a, vs, n, m, hm, hv, hg, hrep, hk, hz, hp, _, _⟩ := S.own hx
  have hint : interactive env = false := by unfold interactive; rw [he.scope, he.kind]; rfl
  refine wpAny_Expr (MethodCall_ (pl := pl env) (wpAny_Name (load_var he S.keep hm hv ?_ hn) hd) (hc env)) hint rfl
  refine getMethod_list_append hg rfl rfl ?_
  show wpAny _ A (callWith p3 (.builtin "list.append") [.ref a] (backTo p3 (starEach [e] env)) []) _ _ _
  rw [star_cons hst env]
  refine P.append_list ((h a).step he hr (S.pin hx hm hv) fun v d σ2 z2 s2 g2 S2 r2 ⟨e2, q⟩ => ?_)
  subst e2
  obtain ⟨a', vs', n', _, _, _, hg', hrep', _, _, hp', upd, _⟩ := S2.own (x := x) (p := some a) (xs := xs) (by simp)
  obtain rfl : a' = a := hp' a rfl
  refine ⟨vs'.toArray, n', by simp [hrep'.length]; (first | exact nq32 hsz | omega), hg', ?_⟩
  obtain ⟨n2, hu⟩ := mapSeq_list (·.push v) hg'
  have hset : ((vs'.toArray).push v).toList = vs' ++ [v] := by simp
  rw [hset] at hu
  have S4 := upd _ s2.toks _ n2 _ (fun b o hb e => by rw [Heap.get?_update_other _ _ (Ne.symm hb)]; exact e) hu (hrep'.app (rep1 r2))
  refine ⟨.next, _, z2, g2, Sim.sub' (S4.unpin hp) fun y l e => ?_, .next, q⟩
  rcases look_cons e with ⟨rfl, rfl⟩ | ⟨e1, e2⟩
  · simp
  · rw [List.lookup_cons, show (y == x) = false by simpa using e1]
    show ((x, LV.own (some a') xs) :: σ).lookup y = _
    rw [List.lookup_cons, show (y == x) = false by simpa using e1]; exact e2

/-- len of a list of one's own -/
theorem WE.lenOwn {x : Str} {p p2 pos : Pos} {pn : Option Addr} {xs : List D} {Q : D → St → Prop} (hg : gk sc "len" = true) (ht : TopVal hT "len" (.bi "len")) (hx : look σ x = some (.own pn xs)) (hl : xs.length < 2 ^ 62) (q : Q (.int xs.length) σ) :
    WE prog w hT os0 k sc (.Call (.Name "len" p2) [.Name x p] [] pos) σ Q := fun env A s kz z he hr hs =>
  Call_ ((WE.glob (Q := fun d σ1 => d = .bi "len" ∧ σ1 = σ) ht hg ⟨rfl, rfl⟩).step he hr hs fun v d σ1 z1 s1 g1 S1 r1 ⟨e1, e2⟩ => by
    subst e1 e2
    cases r1
    obtain ⟨hx, hd, hn⟩ := look_at hx
    obtain ⟨a, vs, n, m, hm, hv, hg, hrep, hk, hz, hp, _, _⟩ := S1.own hx
    refine callWith_builtin1 (args_cons (wpAny_Name (load_var he S1.keep hm hv (args_nil ?_) hn) hd))
    refine call_len_list (items := vs.toArray) ⟨_, hg, rfl, _, rfl⟩ (by simp [hrep.length]; (first | exact nq143 hl | omega)) ?_
    refine ⟨.int xs.length, σ1, z1, g1, S1.more (t := s1.toks + 1 + 1) Le.rfl, ?_, q⟩
    have : (vs.toArray.size : Int) = xs.length := by simp [hrep.length]
    rw [this]; exact .int _ _)

/-! ## built-in functions -/
theorem op_len {ds : List D} {K : D → Prop} (hl : ds.length < 2 ^ 62) (h : K (.int ds.length)) : Op prog w hT os0 0 [.lst ds] (callT (.builtin "len")) K := by
  intro A s z vs hr B rr
  obtain ⟨v, rfl, r1⟩ := repl1 rr
  · cases r1 with
    | @lst a vs n _ ha hl' =>
      refine call_len_list (items := vs.toArray) ⟨_, B.froz _ _ ha, rfl, _, rfl⟩ (by simp [hl'.length]; (first | exact nq143 hl | omega)) ⟨.int ds.length, z, GrowH.toks B.froz _, ?_, h⟩
      have : (vs.toArray.size : Int) = ds.length := by simp [hl'.length]
      rw [this]; exact .int _ _
theorem op_min {a b : Int} {K : D → Prop} (h : K (.int (if b < a then b else a))) : Op prog w hT os0 0 [.int a, .int b] (callT (.builtin "min")) K := by
  intro A s z vs hr B rr
  obtain ⟨v, u, rfl, r1, r2⟩ := repl2 rr
  obtain ⟨x, rfl⟩ := rep_int r1
  obtain ⟨y, rfl⟩ := rep_int r2
  · · refine PySem.min_two_ints hr.1 fun h' tk hk => ⟨_, z, ⟨hk, Grow.rfl, B.froz.trans hk, rfl, rfl⟩, ?_, h⟩
      split <;> exact .int _ _
theorem op_abs {a : Int} {K : D → Prop} (h : K (.int (if a < 0 then -a else a))) : Op prog w hT os0 0 [.int a] (callT (.builtin "abs")) K := by
  intro A s z vs hr B rr
  obtain ⟨v, rfl, r⟩ := repl1 rr
  obtain ⟨x, rfl⟩ := rep_int r
  exact call_abs_int fun u tk => ⟨_, z, GrowH.toks B.froz _, .int _ _, h⟩
theorem op_intT {a : Int} {K : D → Prop} (h : K (.int a)) : Op prog w hT os0 0 [.int a] (callT (.type "int")) K := by
  intro A s z vs hr B rr
  obtain ⟨v, rfl, r⟩ := repl1 rr
  obtain ⟨x, rfl⟩ := rep_int r
  exact PySem.call_int_int ⟨_, z, GrowH.rfl B.froz, .int _ _, h⟩

/-! ## new lists by + and * -/
/-- an operation that makes one new list -/
def OpL (prog : Program) (w : World) (hT : Heap) (os0 : OsState) (ds : List D) (t : List Value → Sem Value) (xs : List D) : Prop :=
  ∀ A s z vs (Q : Value → Shared → Prop), Room 0 A → Base hT os0 s z → RepL z vs ds → (∀ ws, RepL z ws xs → Q (.ref s.heap.objs.size) { s with heap := s.heap.push (lobj ws 0) }) → wpAny (model prog w) A (t vs) Q (fun _ _ => False) s
theorem OpL.op {ds : List D} {t : List Value → Sem Value} {xs : List D} {K : D → Prop} (h : OpL prog w hT os0 ds t xs) (hk : K (.lst xs)) : Op prog w hT os0 0 ds t K := fun A s z vs hr B r =>
  h A s z vs _ hr B r fun ws rw' => ⟨.lst xs, _, GrowH.push B.froz rfl s.toks, .lst zput_at (rw'.mono (GrowH.push B.froz (o := lobj ws 0) rfl s.toks).grow.le), hk⟩
theorem opl_add {xs ys : List D} (hsz : xs.length + ys.length ≤ sizeLine) : OpL prog w hT os0 [.lst xs, .lst ys] (binT .Add) (xs ++ ys) := by
  intro A s z vs Q hr B rr q
  obtain ⟨v, u, rfl, r1, r2⟩ := repl2 rr
  · · cases r1 with
      | @lst a vs n _ ha hl =>
        cases r2 with
        | @lst b us n2 _ hb hl2 =>
          refine P.add_list (B.froz _ _ ha) (B.froz _ _ hb) ?_ (by simp [hl.length, hl2.length]; exact hsz)
          have := q (vs ++ us) (hl.app hl2)
          simpa [lobj] using this
theorem foldl_rep {v : Value} : ∀ (m : Nat) (acc : Array Value), (List.foldl (fun x1 x2 => x1 ++ x2) acc (List.replicate m #[v])) = acc ++ (List.replicate m v).toArray
  | 0, acc => by simp
  | m + 1, acc => by
    rw [List.replicate_succ, List.foldl_cons, foldl_rep m]
    apply Array.toList_inj.mp
    simp [List.replicate_succ]
theorem RepL.replicate {v : Value} {d : D} (r : Rep z v d) : ∀ m : Nat, RepL z (List.replicate m v) (List.replicate m d)
  | 0 => .nil
  | m + 1 => .cons r (RepL.replicate r m)
theorem opl_rep {d : D} {m : Int} (h0 : -(2 ^ 63) ≤ m) (hsz : m ≤ 2 ^ 24) : OpL prog w hT os0 [.lst [d], .int m] (binT .Mult) (List.replicate m.toNat d) := by
  intro A s z vs Q hr B rr q
  obtain ⟨v, u, rfl, r1, r2⟩ := repl2 rr
  obtain ⟨u, rfl⟩ := rep_int r2
  · · cases r1 with
      | @lst l vs k _ ha hl =>
        cases hl with
        | @cons v _ _ _ rv hl =>
          cases hl
          have hh := B.froz _ _ ha
          refine wpAny_binaryOp_repeat_ref (T := "list") (U := "int") (by decide) ⟨_, hh, rfl⟩ (fun s' => typeIs_int s' m u) noFill_list_mul F.fills_int_mul F.slot_int_rmul repeat_list F.slot_int_index.lookup
            (call_meets F.slot_int_rmul (typeIs_int s m u) F.entry_int_rmul (F.args_int_rmul_2 _ _) (int___rmul___int_list m u l #[v] k)
              ⟨hh, rfl, ⟨_, hh, rfl⟩, call_meets F.slot_list_mul ⟨_, hh, rfl⟩ F.entry_list_mul (F.args_list_mul_2 _ _)
                (AutoListH.list___mul___list_int_3 l #[v] k m u (by simp [Builtin.List.listFitsIndex]; (first | exact nq287 h0 hsz | omega)) (by simp; (first | exact nq288 hsz | omega)) (by simp [Builtin.List.listTooLong, sizeLine]; (first | exact nq289 hsz | omega))) ⟨hh, ?_⟩⟩)
          have := q _ (RepL.replicate rv m.toNat)
          simp only [foldl_rep, show (#[v] : Array Value).isEmpty = false from rfl]
          simpa [lobj] using this
theorem WL.bin {l r : Expr} {op : Operator} {pos} {Q : LV → St → Prop}
    (h : WE prog w hT os0 k sc l σ fun d1 σ1 => WE prog w hT os0 k sc r σ1 fun d2 σ2 => ∃ xs, OpL prog w hT os0 [d1, d2] (binT op) xs ∧ Q (.own none xs) σ2) :
    WL prog w hT os0 k sc (.BinOp l op r pos) σ Q := fun env A s kz z he hr hs =>
  wpAny_BinOp (h.step he hr hs fun v1 d1 σ1 z1 s1 g1 S1 r1 h1 => h1.step he hr S1 fun v2 d2 σ2 z2 s2 g2 S2 r2 ⟨xs, o, q⟩ =>
    o A s2 z2 [v1, v2] _ (hr.le (Nat.zero_le _)) S2.base (rep2 (r1.mono g2.1) r2) fun ws rws => own_new S2 (g1.trans g2) rws q s2.toks)
end
end Smith

end

section
namespace Smith

section
variable {prog : Program} {w : World} {hT : Heap} {os0 : OsState} {sc : Scope} {k : Nat} {σ : St} {env : Env} {kz z : Fz} {s : Shared} {A : Around}

/-! ## slices -/
abbrev WP (prog : Program) (w : World) (hT : Heap) (os0 : OsState) (k : Nat) (sc : Scope) (x : Option Expr) (σ : St) (Q : Option Int → St → Prop) : Prop := W prog w hT os0 k sc (fun _ v o => IsPart v o) (fun env => evalPart x env) σ Q
theorem WP.none {Q : Option Int → St → Prop} (h : Q none σ) : WP prog w hT os0 k sc none σ Q := fun env A s kz z he hr hs =>
  wpAny_pure ⟨_, σ, z, Grow.rfl, hs, .none, h⟩
theorem WP.some {e : Expr} {Q : Option Int → St → Prop} (h : WE prog w hT os0 k sc e σ (KInt fun j σ1 => Q (some j) σ1)) : WP prog w hT os0 k sc (some e) σ Q := fun env A s kz z he hr hs =>
  h.step he hr hs fun v d σ1 z1 s1 g1 S1 r1 q => by
    obtain ⟨q⟩ := q
    obtain ⟨t, rfl⟩ := rep_int r1
    exact ⟨_, σ1, z1, g1, S1, .int _ _, q⟩

noncomputable def lowB (n : Nat) (lo : Option Int) : Nat := lo.elim 0 (clipAt n)
noncomputable def highB (n : Nat) (hi : Option Int) : Nat := hi.elim n (clipAt n)
noncomputable def pySlice {α : Type} (ds : List α) (lo hi : Option Int) : List α := (ds.drop (lowB ds.length lo)).take (highB ds.length hi - lowB ds.length lo)
theorem RepL.slice {vs : List Value} {ds : List D} (r : RepL z vs ds) (lo hi : Option Int) : RepL z (pySlice vs lo hi) (pySlice ds lo hi) := by
  unfold pySlice
  rw [r.length]
  exact (r.drop _).take _
theorem pick_py (vs : List Value) (lo hi : Option Int) : slicePick vs.toArray lo hi none = (pySlice vs lo hi).toArray := by
  rw [slicePick_plain]; simp [pySlice, lowB, highB]

inductive KSlice : D → Option Int → (D → St → Prop) → Option Int → St → Prop where
  | mk {ds : List D} {lo hi : Option Int} {Q : D → St → Prop} {σ3 : St} : ds.length ≤ sizeLine → Q (.lst (pySlice ds lo hi)) σ3 → KSlice (.lst ds) lo Q hi σ3
theorem WE.slice {v : Expr} {l u : Option Expr} {p pos : Pos} {Q : D → St → Prop}
    (h : WE prog w hT os0 k sc v σ fun d1 σ1 => WP prog w hT os0 k sc l σ1 fun lo σ2 => WP prog w hT os0 k sc u σ2 (KSlice d1 lo Q)) :
    WE prog w hT os0 k sc (.Subscript v (.Slice l u Option.none p) pos) σ Q := fun env A s kz z he hr hs =>
  Subscript_ (h.step he hr hs fun v1 d1 σ1 z1 s1 g1 S1 r1 h1 => wpAny_Slice (h1.step he hr S1 fun v2 lo σ2 z2 s2 g2 S2 p2 h2 => h2.step he hr S2 fun v3 hi σ3 z3 s3 g3 S3 p3 q => by
    obtain @⟨ds, _, _, _, _, hl, q⟩ := q
    rw [evalPart_none]
    refine wpAny_pure ?_
    have r1 := Rep.mono (g2.trans g3).1 r1
    cases r1 with
    | @lst a vs n _ ha hr1 =>
      have hh := get_push { cls := .type "slice", data := .fields #[v2, v3, .none] } _ _ (S3.froz _ _ ha)
      refine tail_any (T := "list") (ops := [_, _]) ⟨_, hh, rfl⟩ slot_list_getitem.lookup ?_ rfl
      refine wpAny_getItem_list_slice (items := vs.toArray) ⟨_, hh, rfl, _, rfl⟩ (Heap.IsSliceOf.new ..) p2 p3 .none (by simp) ?_ (by simp [hr1.length]; exact hl)
      rw [pick_py]
      have S4 := S3.more (h' := s3.heap.push { cls := .type "slice", data := .fields #[v2, v3, .none] }) (t := s3.toks) (get_push _)
      obtain ⟨S5, g5⟩ := sim_new S4 (lobj (pySlice vs lo hi) 0) rfl s3.toks
      exact ⟨_, σ3, _, ((g1.trans g2).trans g3).trans g5, S5, .lst zput_at ((hr1.slice lo hi).mono g5.1), q⟩))

/-- a slice of a list of one's own -/
theorem WE.sliceOwn {x : Str} {p0 : Pos} {l u : Option Expr} {p pos : Pos} {pn : Option Addr} {xs : List D} {Q : D → St → Prop} (hx : look σ x = some (.own pn xs))
    (h : ∀ a, WP prog w hT os0 k sc l ((x, .own (some a) xs) :: σ) fun lo σ2 => WP prog w hT os0 k sc u σ2 fun hi σ3 => σ3 = (x, .own (some a) xs) :: σ ∧ xs.length ≤ sizeLine ∧ Q (.lst (pySlice xs lo hi)) σ) :
    WE prog w hT os0 k sc (.Subscript (.Name x p0) (.Slice l u Option.none p) pos) σ Q := by
  intro env A s kz z he hr S
  obtain ⟨hx, hd, hn⟩ := look_at hx
  obtain ⟨a, vs, n, m, hm, hv, hg, hrep, hk, hz, hp, _, _⟩ := S.own hx
  refine Subscript_ (wpAny_Name (load_var he S.keep hm hv ?_ hn) hd)
  refine wpAny_Slice ((h a).step he hr (S.pin hx hm hv) fun v2 lo σ2 z2 s2 g2 S2 p2 h2 => h2.step he hr S2 fun v3 hi σ3 z3 s3 g3 S3 p3 ⟨e, hl, q⟩ => ?_)
  subst e
  rw [evalPart_none]
  refine wpAny_pure ?_
  obtain ⟨a', vs', n', _, _, _, hg', hrep', _, _, hp', _, _⟩ := S3.own (x := x) (p := some a) (xs := xs) (by simp)
  obtain rfl : a' = a := hp' a rfl
  have hh := get_push { cls := .type "slice", data := .fields #[v2, v3, .none] } _ _ hg'
  refine tail_any (T := "list") (ops := [_, _]) ⟨_, hh, rfl⟩ slot_list_getitem.lookup ?_ rfl
  refine wpAny_getItem_list_slice (items := vs'.toArray) ⟨_, hh, rfl, _, rfl⟩ (Heap.IsSliceOf.new ..) p2 p3 .none (by simp) ?_ (by simp [hrep'.length]; exact hl)
  rw [pick_py]
  have S4 := S3.more (h' := s3.heap.push { cls := .type "slice", data := .fields #[v2, v3, .none] }) (t := s3.toks) (get_push _)
  obtain ⟨S5, g5⟩ := sim_new S4 (lobj (pySlice vs' lo hi) 0) rfl s3.toks
  exact ⟨_, σ, _, (g2.trans g3).trans g5, S5.unpin' hx hp, .lst zput_at ((hrep'.slice lo hi).mono g5.1), q⟩

/-- the whole list backwards -/
theorem WE.rev {v e : Expr} {p pos : Pos} {Q : D → St → Prop}
    (h : WE prog w hT os0 k sc v σ fun d1 σ1 => WE prog w hT os0 k sc e σ1 fun d2 σ2 => ∃ ds, d1 = .lst ds ∧ d2 = .int (-1) ∧ ds.length ≤ sizeLine ∧ Q (.lst ds.reverse) σ2) :
    WE prog w hT os0 k sc (.Subscript v (.Slice Option.none Option.none (Option.some e) p) pos) σ Q := fun env A s kz z he hr hs =>
  Subscript_ (h.step he hr hs fun v1 d1 σ1 z1 s1 g1 S1 r1 h1 => wpAny_Slice (by
    rw [evalPart_none]
    refine wpAny_pure (wpAny_pure ?_)
    refine h1.step he hr S1 fun v2 d2 σ2 z2 s2 g2 S2 r2 ⟨ds, e, e2, hl, q⟩ => ?_
    subst e e2
    obtain ⟨t, rfl⟩ := rep_int r2
    have r1 := Rep.mono g2.1 r1
    cases r1 with
    | @lst a vs n _ ha hr1 =>
      have hh := get_push { cls := .type "slice", data := .fields #[.none, .none, .int (-1) t] } _ _ (S2.froz _ _ ha)
      refine tail_any (T := "list") (ops := [_, _]) ⟨_, hh, rfl⟩ slot_list_getitem.lookup ?_ rfl
      refine wpAny_getItem_list_slice (items := vs.toArray) ⟨_, hh, rfl, _, rfl⟩ (Heap.IsSliceOf.new ..) .none .none (.int _ _) (by simp) ?_ (by simp [hr1.length]; exact hl)
      rw [W.krv_pick]
      have S4 := S2.more (h' := s2.heap.push { cls := .type "slice", data := .fields #[.none, .none, .int (-1) t] }) (t := s2.toks) (get_push _)
      obtain ⟨S5, g5⟩ := sim_new S4 (lobj vs.reverse 0) rfl s2.toks
      exact ⟨_, σ2, _, (g1.trans g2).trans g5, S5, .lst zput_at (hr1.reverse.mono g5.1), q⟩))

/-! ## several names at once -/
theorem Slot.mono {v : Value} {kz1 : Fz} {lv : LV} {z' : Fz} (h : Slot kz z v kz1 lv) (g : Grow kz1 z z') : Slot kz z' v kz1 lv := by
  cases lv with
  | val d => exact ⟨Rep.mono g.1 h.1, h.2⟩
  | own p xs =>
    obtain ⟨h0, a, vs, n, h1, h2, h3, h4, h5⟩ := h
    refine ⟨h0, a, vs, n, h1, h2, ?_, h4.mono g.1, h5⟩
    cases q : z' a with
    | none => rfl
    | some o =>
      rcases g.2 a o q with e | e
      · rw [h3] at e; cases e
      · rw [h5] at e; exact absurd rfl (kput_none e).1
theorem Slot.comm {v1 v2 : Value} {k1 k2 : Fz} {l1 l2 : LV} (h : Slot kz z v1 k1 l1) (g : Slot k1 z v2 k2 l2) : ∃ k1', Slot kz z v2 k1' l2 ∧ Slot k1' z v1 k2 l1 := by
  cases l1 with
  | val d => obtain ⟨h1, rfl⟩ := h; exact ⟨k2, g, h1, rfl⟩
  | own p xs =>
    obtain ⟨h0, a, vs, n, h1, h2, h3, h4, rfl⟩ := h
    cases l2 with
    | val d => obtain ⟨g1, rfl⟩ := g; exact ⟨kz, ⟨g1, rfl⟩, h0, a, vs, n, h1, h2, h3, h4, rfl⟩
    | own p' ys =>
      obtain ⟨g0, b, us, m, g1, g2, g3, g4, rfl⟩ := g
      obtain ⟨ne, gk⟩ := kput_none g2
      refine ⟨kput kz b (lobj us m), ⟨g0, b, us, m, g1, gk, g3, g4, rfl⟩, h0, a, vs, n, h1, by rw [kput_ne (Ne.symm ne)]; exact h2, h3, h4, ?_⟩
      funext c
      by_cases ca : c = a
      · subst ca; rw [kput_ne (Ne.symm ne)]; simp [kput, zput]
      · by_cases cb : c = b
        · subst cb; rw [kput_ne ca]; simp [kput, zput]
        · rw [kput_ne cb, kput_ne ca, kput_ne ca, kput_ne cb]

inductive Slots (z : Fz) : Fz → List Value → Fz → List LV → Prop where
  | nil {kz : Fz} : Slots z kz [] kz []
  | cons {kz kz1 kz2 : Fz} {v : Value} {lv : LV} {vs : List Value} {lvs : List LV} : Slot kz z v kz2 lv → Slots z kz2 vs kz1 lvs → Slots z kz (v :: vs) kz1 (lv :: lvs)
inductive WatS (hT : Heap) (os0 : OsState) (sc : Scope) (env : Env) (kz z : Fz) (Q : List LV → St → Prop) (vs : List Value) (s' : Shared) : Prop where
  | mk (lvs : List LV) (σ' : St) (z' kz1 : Fz) : Grow kz z z' → Slots z' kz vs kz1 lvs → Sim hT os0 sc env σ' kz1 z' s' → Q lvs σ' → WatS hT os0 sc env kz z Q vs s'

/-- the values of a display that are to be stored -/
def WSl (prog : Program) (w : World) (hT : Heap) (os0 : OsState) (k : Nat) (sc : Scope) (pos : Pos) (es : List Expr) (σ : St) (Q : List LV → St → Prop) : Prop :=
  ∀ env A s kz z, EnvOk sc env → Room k A → Sim hT os0 sc env σ kz z s →
    wpAny (model prog w) A (spliced (backTo pos (starEach es env))) (WatS hT os0 sc env kz z Q) (fun _ _ => False) s
theorem WSl.nil {pos} {Q : List LV → St → Prop} (h : Q [] σ) : WSl prog w hT os0 k sc pos [] σ Q := fun env A s kz z he hr hs =>
  args_nil ⟨[], σ, z, kz, Grow.rfl, .nil, hs, h⟩
theorem WSl.cons {e : Expr} {rest : List Expr} {pos} {Q : List LV → St → Prop}
    (hst : (kindE e != 1) = true)
    (h : WL prog w hT os0 k sc e σ fun lv σ1 => WSl prog w hT os0 k sc pos rest σ1 fun lvs σ2 => Q (lv :: lvs) σ2) : WSl prog w hT os0 k sc pos (e :: rest) σ Q := fun env A s kz z he hr hs =>
  args_cons (wpAny_mono (h env A s kz z he hr hs) (fun v s1 ⟨lv, σ1, z1, kz1, g1, sl, S1, h1⟩ => wpAny_mono (h1 env A s1 kz1 z1 he hr S1) (fun vs s2 ⟨lvs, σ2, z2, kz2, g2, sls, S2, q⟩ => by
    refine ⟨lv :: lvs, σ2, z2, kz2, g1.trans ⟨g2.1, fun b o e => (g2.2 b o e).imp id fun n => ?_⟩, .cons (sl.mono g2) sls, S2, q⟩
    cases q : kz b with
    | none => rfl
    | some o => rw [sl.le _ _ q] at n; cases n) fun _ _ x => x) fun _ _ x => x) (star_cons hst env)

inductive KLV2 (Q : LV → LV → St → Prop) : List LV → St → Prop where
  | mk {a b : LV} {σ : St} : Q a b σ → KLV2 Q [a, b] σ
inductive KLV3 (Q : LV → LV → LV → St → Prop) : List LV → St → Prop where
  | mk {a b c : LV} {σ : St} : Q a b c σ → KLV3 Q [a, b, c] σ
inductive KLV4 (Q : LV → LV → LV → LV → St → Prop) : List LV → St → Prop where
  | mk {a b c d : LV} {σ : St} : Q a b c d σ → KLV4 Q [a, b, c, d] σ
inductive KT2 (Q : D → D → St → Prop) : D → St → Prop where
  | mk {a b : D} {σ : St} : Q a b σ → KT2 Q (.tup [a, b]) σ
inductive KT3 (Q : D → D → D → St → Prop) : D → St → Prop where
  | mk {a b c : D} {σ : St} : Q a b c σ → KT3 Q (.tup [a, b, c]) σ
section
variable {x y u : Str} {p1 p2 p3 p4 tp vp pos : Pos} {es : List Expr} {m n : Nat} {Q : Fl → St → Prop}

/-- both stores of a pair, the second first: two local names on one line -/
theorem WX.pair (hx : varB sc x = true) (hy : varB sc y = true)
    (hw : ∀ env, env.scope = sc → swappedStores [.Tuple [.Name x p1, .Name y p2] m tp] (.Tuple es n vp) env = pure (Option.some [x, y]) )
    (h : WSl prog w hT os0 k sc vp es σ (KLV2 fun l1 l2 σ1 => Q .next ((x, l1) :: (y, l2) :: σ1))) :
    WX prog w hT os0 k sc (.Assign [.Tuple [.Name x p1, .Name y p2] m tp] (.Tuple es n vp) pos) σ Q := by
  intro env A s kz z he hr S
  show wpAny _ A (exec (.Assign [.Tuple [.Name x p1, .Name y p2] m tp] (.Tuple es n vp) pos) env) _ _ s
  rw [exec_Assign, show swapsWithSole [_] (Expr.Tuple es n vp) pos.line env = pure false from rfl, hw env he.scope]
  refine wpAny_bind (wpAny_standAt (wpAny_bind (wpAny_pure ?_)))
  simp only [Bool.false_eq_true, if_false]
  refine wpAny_bind (Tuple_ (wpAny_mono (h env A s kz z he hr S) (fun vs s1 ⟨lvs, σ1, z1, kz1, g1, sl, S1, q⟩ => ?_) fun _ _ x => x))
  obtain ⟨q⟩ := q
  cases sl with | @cons _ _ k2 v1 _ _ _ sl1 sl => cases sl with | @cons _ _ k3 v2 _ _ _ sl2 sl =>
    cases sl
    refine wpAny_newObj_type ?_ (by show (2 : Nat) ≤ sizeLine; decide)
    refine wpAny_bind (wpAny_pure ?_)
    show wpAny _ A (do rule "assign.swapped-stores"; let items ← unpackItems _ 2 Option.none; assignInOrder ([x, y].reverse.map fun n => bindName env n) items.reverse; pure Flow.next) _ _ _
    refine wpAny_bind (wpAny_rule (wpAny_bind (wpAny_unpackItems_tuple (items := #[v1, v2]) hr.1 ⟨_, Heap.get?_push_size _ rfl, rfl, 0, rfl⟩ fun h1 hx1 => ?_)))
    have S2 := (S1.more (h' := s1.heap.push { cls := .type "tuple", dict := Option.none, data := .seq #[v1, v2] }) (t := s1.toks) (get_push _)).more (h' := h1) (t := s1.toks) (fun b o e => hx1 b o (fun q => by rw [q] at e; rw [get_new] at e; cases e) e)
    show wpAny _ A (do (do holding [v1] (bindName env y v2); do holding [] (bindName env x v1); pure ()); pure Flow.next) _ _ _
    refine wpAny_bind (wpAny_bind (wpAny_holding (wpAny_bindName (store_slot (kz := k2) he S2 (S.top.trans sl1.le) sl2 (varB_at hy) fun s3 S3 => ?_))))
    refine wpAny_bind (wpAny_holding (wpAny_bindName (store_slot (kz := kz) he S3 S.top sl1 (varB_at hx) fun s4 S4 => wpAny_pure (wpAny_pure ?_))))
    exact ⟨.next, _, z1, g1, S4, .next, q⟩

/-- three local names -/
theorem WX.triple (hx : varB sc x = true) (hy : varB sc y = true) (hu : varB sc u = true)
    (hw : ∀ env, env.scope = sc → swappedStores [.Tuple [.Name x p1, .Name y p2, .Name u p3] m tp] (.Tuple es n vp) env = pure (Option.some [x, y, u]) )
    (h : WSl prog w hT os0 k sc vp es σ (KLV3 fun l1 l2 l3 σ1 => Q .next ((x, l1) :: (y, l2) :: (u, l3) :: σ1))) :
    WX prog w hT os0 k sc (.Assign [.Tuple [.Name x p1, .Name y p2, .Name u p3] m tp] (.Tuple es n vp) pos) σ Q := by
  intro env A s kz z he hr S
  show wpAny _ A (exec (.Assign [.Tuple [.Name x p1, .Name y p2, .Name u p3] m tp] (.Tuple es n vp) pos) env) _ _ s
  rw [exec_Assign, show swapsWithSole [_] (Expr.Tuple es n vp) pos.line env = pure false from rfl, hw env he.scope]
  refine wpAny_bind (wpAny_standAt (wpAny_bind (wpAny_pure ?_)))
  simp only [Bool.false_eq_true, if_false]
  refine wpAny_bind (Tuple_ (wpAny_mono (h env A s kz z he hr S) (fun vs s1 ⟨lvs, σ1, z1, kz1, g1, sl, S1, q⟩ => ?_) fun _ _ x => x))
  obtain ⟨q⟩ := q
  cases sl with | @cons _ _ k2 v1 _ _ _ sl1 sl => cases sl with | @cons _ _ k3 v2 _ _ _ sl2 sl => cases sl with | @cons _ _ k4 v3 _ _ _ sl3 sl =>
    cases sl
    refine wpAny_newObj_type ?_ (by show (3 : Nat) ≤ sizeLine; decide)
    refine wpAny_bind (wpAny_pure ?_)
    show wpAny _ A (do rule "assign.swapped-stores"; let items ← unpackItems _ 3 Option.none; assignInOrder ([x, y, u].reverse.map fun n => bindName env n) items.reverse; pure Flow.next) _ _ _
    refine wpAny_bind (wpAny_rule (wpAny_bind (wpAny_unpackItems_tuple (items := #[v1, v2, v3]) hr.1 ⟨_, Heap.get?_push_size _ rfl, rfl, 0, rfl⟩ fun h1 hx1 => ?_)))
    have S2 := (S1.more (h' := s1.heap.push { cls := .type "tuple", dict := Option.none, data := .seq #[v1, v2, v3] }) (t := s1.toks) (get_push _)).more (h' := h1) (t := s1.toks) (fun b o e => hx1 b o (fun q => by rw [q] at e; rw [get_new] at e; cases e) e)
    show wpAny _ A (do (do holding [v2, v1] (bindName env u v3); do holding [v1] (bindName env y v2); do holding [] (bindName env x v1); pure ()); pure Flow.next) _ _ _
    refine wpAny_bind (wpAny_bind (wpAny_holding (wpAny_bindName (store_slot (kz := k3) he S2 ((S.top.trans sl1.le).trans sl2.le) sl3 (varB_at hu) fun s3 S3 => ?_))))
    refine wpAny_bind (wpAny_holding (wpAny_bindName (store_slot (kz := k2) he S3 (S.top.trans sl1.le) sl2 (varB_at hy) fun s4 S4 => ?_)))
    refine wpAny_bind (wpAny_holding (wpAny_bindName (store_slot (kz := kz) he S4 S.top sl1 (varB_at hx) fun s5 S5 => wpAny_pure (wpAny_pure ?_))))
    exact ⟨.next, _, z1, g1, S5, .next, q⟩

/-- a pair of names of which one is captured: stored in order -/
theorem WX.pairF (hx : varB sc x = true) (hy : varB sc y = true)
    (hw : ∀ env, env.scope = sc → swappedStores [.Tuple [.Name x p1, .Name y p2] m tp] (.Tuple es n vp) env = pure Option.none )
    (h : WSl prog w hT os0 k sc vp es σ (KLV2 fun l1 l2 σ1 => Q .next ((y, l2) :: (x, l1) :: σ1))) :
    WX prog w hT os0 k sc (.Assign [.Tuple [.Name x p1, .Name y p2] m tp] (.Tuple es n vp) pos) σ Q := by
  intro env A s kz z he hr S
  refine Assign_Tuple (Tuple_ (wpAny_mono (h env A s kz z he hr S) (fun vs s1 ⟨lvs, σ1, z1, kz1, g1, sl, S1, q⟩ => ?_) fun _ _ x => x)) rfl (hw env he.scope)
  obtain ⟨q⟩ := q
  cases sl with | @cons _ _ k2 v1 _ _ _ sl1 sl => cases sl with | @cons _ _ k3 v2 _ _ _ sl2 sl =>
    cases sl
    obtain ⟨k2', t2, t1⟩ := sl1.comm sl2
    refine wpAny_newObj_type ?_ (by show (2 : Nat) ≤ sizeLine; decide)
    refine wpAny_assign_Tuple (items := #[v1, v2]) hr.1 ⟨_, Heap.get?_push_size _ rfl, rfl, 0, rfl⟩ rfl rfl fun h1 hx1 => ?_
    have S2 := (S1.more (h' := s1.heap.push { cls := .type "tuple", dict := Option.none, data := .seq #[v1, v2] }) (t := s1.toks) (get_push _)).more (h' := h1) (t := s1.toks) (fun b o e => hx1 b o (fun q => by rw [q] at e; rw [get_new] at e; cases e) e)
    show wpAny _ A (do holding [v2] (PySem.assign (Expr.Name x p1) env v1); do holding [] (PySem.assign (Expr.Name y p2) env v2); pure ()) _ _ _
    refine wpAny_bind (wpAny_holding (wpAny_assign_Name (store_slot (kz := k2') he S2 (S.top.trans t2.le) t1 (varB_at hx) fun s3 S3 => ?_)))
    refine wpAny_bind (wpAny_holding (wpAny_assign_Name (store_slot (kz := kz) he S3 S.top t2 (varB_at hy) fun s4 S4 => wpAny_pure ?_)))
    exact ⟨.next, _, z1, g1, S4, .next, q⟩

/-- four names, stored in order -/
theorem WX.quad {v : Str} (hx : varB sc x = true) (hy : varB sc y = true) (hu : varB sc u = true) (hv : varB sc v = true)
    (hw : ∀ env, env.scope = sc → swappedStores [.Tuple [.Name x p1, .Name y p2, .Name u p3, .Name v p4] m tp] (.Tuple es n vp) env = pure Option.none )
    (h : WSl prog w hT os0 k sc vp es σ (KLV4 fun l1 l2 l3 l4 σ1 => Q .next ((v, l4) :: (u, l3) :: (y, l2) :: (x, l1) :: σ1))) :
    WX prog w hT os0 k sc (.Assign [.Tuple [.Name x p1, .Name y p2, .Name u p3, .Name v p4] m tp] (.Tuple es n vp) pos) σ Q := by
  intro env A s kz z he hr S
  refine Assign_Tuple (Tuple_ (wpAny_mono (h env A s kz z he hr S) (fun vs s1 ⟨lvs, σ1, z1, kz1, g1, sl, S1, q⟩ => ?_) fun _ _ x => x)) rfl (hw env he.scope)
  obtain ⟨q⟩ := q
  cases sl with | @cons _ _ k2 v1 _ _ _ sl1 sl => cases sl with | @cons _ _ k3 v2 _ _ _ sl2 sl => cases sl with | @cons _ _ k4 v3 _ _ _ sl3 sl => cases sl with | @cons _ _ k5 v4 _ _ _ sl4 sl =>
    cases sl
    -- the first slot comes to stand last
    obtain ⟨a1, a2, b2⟩ := sl1.comm sl2
    obtain ⟨a3, a4, b4⟩ := b2.comm sl3
    obtain ⟨a5, a6, b6⟩ := b4.comm sl4
    -- now: a2 (2nd), a4 (3rd), a6 (4th), b6 (1st)
    obtain ⟨c1, c2, d2⟩ := a2.comm a4
    obtain ⟨c3, c4, d4⟩ := d2.comm a6
    -- now: c2 (3rd), c4 (4th), d4 (2nd), b6 (1st)
    obtain ⟨f1, f2, f3⟩ := c2.comm c4
    refine wpAny_newObj_type ?_ (by show (4 : Nat) ≤ sizeLine; decide)
    refine wpAny_assign_Tuple (items := #[v1, v2, v3, v4]) hr.1 ⟨_, Heap.get?_push_size _ rfl, rfl, 0, rfl⟩ rfl rfl fun h1 hx1 => ?_
    have S2 := (S1.more (h' := s1.heap.push { cls := .type "tuple", dict := Option.none, data := .seq #[v1, v2, v3, v4] }) (t := s1.toks) (get_push _)).more (h' := h1) (t := s1.toks) (fun b o e => hx1 b o (fun q => by rw [q] at e; rw [get_new] at e; cases e) e)
    show wpAny _ A (do holding [v2, v3, v4] (PySem.assign (Expr.Name x p1) env v1); do holding [v3, v4] (PySem.assign (Expr.Name y p2) env v2); do holding [v4] (PySem.assign (Expr.Name u p3) env v3); do holding [] (PySem.assign (Expr.Name v p4) env v4); pure ()) _ _ _
    refine wpAny_bind (wpAny_holding (wpAny_assign_Name (store_slot he S2 (((S.top.trans f2.le).trans f3.le).trans d4.le) b6 (varB_at hx) fun s3 S3 => ?_)))
    refine wpAny_bind (wpAny_holding (wpAny_assign_Name (store_slot he S3 ((S.top.trans f2.le).trans f3.le) d4 (varB_at hy) fun s4 S4 => ?_)))
    refine wpAny_bind (wpAny_holding (wpAny_assign_Name (store_slot he S4 (S.top.trans f2.le) f3 (varB_at hu) fun s5 S5 => ?_)))
    refine wpAny_bind (wpAny_holding (wpAny_assign_Name (store_slot he S5 S.top f2 (varB_at hv) fun s6 S6 => wpAny_pure ?_)))
    exact ⟨.next, _, z1, g1, S6, .next, q⟩

theorem no_stores {e : Expr} {ts : List Expr} {m : Nat} {tp : Pos} (h : (kindE e != 6) = true) (env : Env) : swappedStores [.Tuple ts m tp] e env = pure Option.none := by
  cases e <;> first | rfl | cases h
/-- a pair out of a value that is a tuple -/
theorem WX.unpack2 {e : Expr} (hx : varB sc x = true) (hy : varB sc y = true)
    (hs : (kindE e != 3) = true) (hw : (kindE e != 6) = true)
    (h : WE prog w hT os0 k sc e σ (KT2 fun d1 d2 σ1 => Q .next ((y, .val d2) :: (x, .val d1) :: σ1))) :
    WX prog w hT os0 k sc (.Assign [.Tuple [.Name x p1, .Name y p2] m tp] e pos) σ Q := by
  intro env A s kz z he hr S
  refine Assign_Tuple (h.step he hr S fun v d σ1 z1 s1 g1 S1 r1 q => ?_) (no_swap1 hs _ _ env) (no_stores hw env)
  obtain ⟨q⟩ := q
  cases r1 with
  | tup ha hl =>
    cases hl with
    | cons r1 hl =>
      cases hl with
      | cons r2 hl =>
        cases hl
        exact wpAny_mono (bind_pair (fp := []) (P := fun _ => True) hr.1 he S1 (fun _ h => nomatch h) (fun _ _ _ _ => trivial) trivial ⟨_, S1.froz _ _ ha, rfl, _, rfl⟩ r1 r2 (varB_at hx) (varB_at hy)) (fun _ s2 ⟨S2, _⟩ => ⟨.next, _, z1, g1, S2, .next, q⟩) fun _ _ x => x
/-- three out of a value that is a tuple -/
theorem WX.unpack3 {e : Expr} (hx : varB sc x = true) (hy : varB sc y = true) (hu : varB sc u = true)
    (hs : (kindE e != 3) = true) (hw : (kindE e != 6) = true)
    (h : WE prog w hT os0 k sc e σ (KT3 fun d1 d2 d3 σ1 => Q .next ((u, .val d3) :: (y, .val d2) :: (x, .val d1) :: σ1))) :
    WX prog w hT os0 k sc (.Assign [.Tuple [.Name x p1, .Name y p2, .Name u p3] m tp] e pos) σ Q := by
  intro env A s kz z he hr S
  refine Assign_Tuple (h.step he hr S fun v d σ1 z1 s1 g1 S1 r1 q => ?_) (no_swap1 hs _ _ env) (no_stores hw env)
  obtain @⟨d1, d2, d3, _, q⟩ := q
  cases r1 with
  | tup ha hl =>
    cases hl with
    | @cons v1 _ _ _ r1 hl =>
      cases hl with
      | @cons v2 _ _ _ r2 hl =>
        cases hl with
        | @cons v3 _ _ _ r3 hl =>
          cases hl
          refine wpAny_assign_Tuple (items := #[v1, v2, v3]) hr.1 ⟨_, S1.froz _ _ ha, rfl, _, rfl⟩ rfl rfl fun h1 hx1 => ?_
          have S2 := S1.more (h' := h1) (t := s1.toks) (fun b o e => hx1 b o (fun q => by rw [q] at e; rw [get_new] at e; cases e) e)
          show wpAny _ A (do holding [v2, v3] (PySem.assign (Expr.Name x p1) env v1); do holding [v3] (PySem.assign (Expr.Name y p2) env v2); do holding [] (PySem.assign (Expr.Name u p3) env v3); pure ()) _ _ _
          refine wpAny_bind (wpAny_holding (wpAny_assign_Name (store_slot (lv := .val d1) he S2 S2.top ⟨r1, rfl⟩ (varB_at hx) fun s3 S3 => ?_)))
          refine wpAny_bind (wpAny_holding (wpAny_assign_Name (store_slot (lv := .val d2) he S3 S3.top ⟨r2, rfl⟩ (varB_at hy) fun s4 S4 => ?_)))
          refine wpAny_bind (wpAny_holding (wpAny_assign_Name (store_slot (lv := .val d3) he S4 S4.top ⟨r3, rfl⟩ (varB_at hu) fun s5 S5 => wpAny_pure ?_)))
          exact ⟨.next, _, z1, g1, S5, .next, q⟩
end
end
end Smith

end

section
namespace Smith

section
variable {prog : Program} {w : World} {hT : Heap} {os0 : OsState} {sc : Scope} {k : Nat} {σ : St} {env : Env} {kz z : Fz} {s : Shared} {A : Around}

theorem bindL_keep (kd : Str → Option NameKind) {x : Str} : ∀ (binds : List (Str × Value)) (m : Str → Option Value), x ∉ binds.map (·.1) → bindL kd binds m x = m x
  | [], m, _ => rfl
  | (n, v) :: r, m, h => by
    simp only [List.map_cons, List.mem_cons, not_or] at h
    rw [bindL, bindL_keep kd r _ h.2]
    split
    · simp [h.1]
    · rfl
theorem bindC_keep (kd : Str → Option NameKind) {x : Str} : ∀ (binds : List (Str × Value)) (m : Str → Option Value), x ∉ binds.map (·.1) → bindC kd binds m x = m x
  | [], m, _ => rfl
  | (n, v) :: r, m, h => by
    simp only [List.map_cons, List.mem_cons, not_or] at h
    rw [bindC, bindC_keep kd r _ h.2]
    split
    · rfl
    · simp [h.1]
theorem bindL_get (kd : Str → Option NameKind) {x : Str} {v : Value} (hx : kd x = some .local) : ∀ (binds : List (Str × Value)) (m : Str → Option Value), (binds.map (·.1)).Nodup → (x, v) ∈ binds → bindL kd binds m x = some v
  | (n, u) :: r, m, nd, h => by
    simp only [List.map_cons, List.nodup_cons] at nd
    rw [bindL]
    rcases List.mem_cons.mp h with e | h
    · cases e
      rw [bindL_keep kd r _ nd.1, if_pos hx]; simp
    · exact bindL_get kd hx r _ nd.2 h
theorem bindC_get (kd : Str → Option NameKind) {x : Str} {v : Value} (hx : kd x = some .cell) : ∀ (binds : List (Str × Value)) (m : Str → Option Value), (binds.map (·.1)).Nodup → (x, v) ∈ binds → bindC kd binds m x = some v
  | (n, u) :: r, m, nd, h => by
    simp only [List.map_cons, List.nodup_cons] at nd
    rw [bindC]
    rcases List.mem_cons.mp h with e | h
    · cases e
      rw [bindC_keep kd r _ nd.1, if_neg (by rw [hx]; decide)]; simp
    · exact bindC_get kd hx r _ nd.2 h
theorem apart_eq {x y : Str} {c : Addr} : ∀ {l : List (Str × Addr)}, l.Pairwise (fun x y => x.2 ≠ y.2) → (x, c) ∈ l → (y, c) ∈ l → x = y
  | (n, b) :: r, hp, h1, h2 => by
    rw [List.pairwise_cons] at hp
    obtain ⟨ha, hr⟩ := hp
    simp only [List.mem_cons, Prod.mk.injEq] at h1 h2
    rcases h1 with ⟨rfl, rfl⟩ | h1 <;> rcases h2 with ⟨e2, e3⟩ | h2
    · exact e2.symm
    · exact absurd rfl (ha (y, c) h2)
    · exact absurd e3.symm (ha (x, c) h1)
    · exact apart_eq hr h1 h2
theorem nodup_zip : ∀ (xs : List Str) (vs : List Value), xs.Nodup → ((xs.zip vs).map (·.1)).Nodup
  | [], _, _ => by simp
  | x :: xs, [], _ => by simp
  | x :: xs, v :: vs, h => by
    obtain ⟨h1, h2⟩ := List.nodup_cons.mp h
    simp only [List.zip_cons_cons, List.map_cons, List.nodup_cons]
    refine ⟨fun hm => ?_, nodup_zip xs vs h2⟩
    obtain ⟨p, hp, e⟩ := List.mem_map.mp hm
    exact h1 (e ▸ (List.of_mem_zip (show (p.1, p.2) ∈ xs.zip vs from hp)).1)
/-- a def of the text stands at f -/
inductive FnAt (hT : Heap) (f : Addr) (name : Str) (params : Arguments) (body : List Stmt) (scope : Scope) : Prop where
  | mk (o : Obj) (pm cd doc : Value) : hT.get? f = some o → o.data = .func (docDef name params body scope pm cd doc) → hT.CodeRec cd name → FnAt hT f name params body scope
theorem deeper_room {k : Nat} (h : Room (k + 1) A) : Room k (A.deeper env) := ⟨h.1, by have := h.deep; show A.depth + 1 + k < _; (first | exact nq270 this | omega), by have := h.unit; show A.units + 3 + 8 * k + 40 < _; (first | exact nq271 this | omega)⟩

inductive BindOwn (kz z : Fz) (h : Heap) (v : Value) (p : Option Addr) (ds : List D) : Prop where
  | mk (a : Addr) : v = .ref a → ListAt z h a ds → kz a = none → z a = none → p = some a → BindOwn kz z h v p ds
def BindVal (kz z : Fz) (h : Heap) (v : Value) : LV → Prop
  | .val d => Rep z v d
  | .own p ds => BindOwn kz z h v p ds
inductive BindAt (kz z : Fz) (h : Heap) (xs : List Str) (vs : List Value) (x : Str) (lv : LV) : Prop where
  | mk (v : Value) : (x, v) ∈ xs.zip vs → BindVal kz z h v lv → BindAt kz z h xs vs x lv
/-- how a def's body ends -/
inductive KEnd (K : D → St → Prop) : Fl → St → Prop where
  | ret {r : D} {σ : St} : K r σ → KEnd K (.ret r) σ
  | next {σ : St} : K .none σ → KEnd K .next σ
/-- the parameters, as they are bound: data, or lists of the caller's that may be changed -/
structure Binds (kz z : Fz) (h : Heap) (xs : List Str) (vs : List Value) (σ : St) : Prop where
  get : ∀ x lv, σ.lookup x = some lv → BindAt kz z h xs vs x lv
  one : ∀ x y p q a b, σ.lookup x = some (.own p a) → σ.lookup y = some (.own q b) → x = y

theorem enter_fn {f : Addr} {name : Str} {params : Arguments} {body : List Stmt} {scope : Scope} {vs : List Value} {xs : List Str} {Q : Value → Shared → Prop} {X : D → St → Prop}
    (hf : FnAt hT f name params body scope) (hlim : hT.NoLimit) (hr : Room (k + 1) A) (B : Base hT os0 s z) (hkz : Le kz s.heap.get?) (hkt : Le hT.get? kz) (σ : St) (hB : Binds kz z s.heap xs vs σ)
    (hbind : ∀ pm cd doc, bindArgs (docDef name params body scope pm cd doc) ⟨vs, []⟩ = pure (xs.zip vs))
    (hnd : xs.Nodup) (hkind : ∀ x ∈ xs, isVar scope x)
    (body_ok : WXs prog w hT os0 k scope body σ (KEnd X))
    (ret : ∀ r v σ' env' z' s', X r σ' → EnvOk scope env' → Grow kz z z' → Sim hT os0 scope env' σ' kz z' s' → Rep z' v r → Q v s')
    (hco : scope.isCoroutine = false := by rfl) (hgen : scope.isGenerator = false := by rfl) (hk : scope.kind = .function := by rfl) :
    wpAny (model prog w) A (call (.ref f) vs) Q (fun _ _ => False) s := by
  obtain ⟨o, pm, cd, doc, ho, hd, hcd⟩ := hf
  have tk : Le hT.get? s.heap.get? := B.1.trans B.froz
  have ho' := tk _ _ ho
  have hlim' : s.heap.NoLimit := hlim.keeps tk
  refine wpAny_call (codeAny_call_function (Nat.lt_of_le_of_lt (Nat.le_add_right _ _) hr.deep) ho' hd hco hgen rfl (hcd.keeps tk) ?_)
  rw [hbind]
  refine wpAny_pure ?_
  have keys : ∀ p ∈ xs.zip vs, p.1 ∈ xs := fun p hp => (List.of_mem_zip (show (p.1, p.2) ∈ xs.zip vs from hp)).1
  have nodupZ := nodup_zip xs vs hnd
  refine wpAny_newFunctionEnv_cells hk (fun p hp => ?_) fun env' he s1 x => ?_
  · rcases hkind _ (keys p hp) with h | h
    · exact .inl h
    · exact .inr ⟨h, W.cellsFrom_some _ _ _ (.inl h)⟩
  subst he
  refine ⟨hlim'.keeps x.toInCall.keep, codeAny_func ?_⟩
  obtain ⟨h1, tk1, e1, hk1⟩ := x.done
  have eok : EnvOk scope (newEnv scope s.heap.objs.size mainGlobals (cellsFrom (s.heap.objs.size + 1) scope.names []) (name ++ ".<locals>.") (some f) cd none builtinsNs) := ⟨rfl, hk, rfl, rfl⟩
  have notin : ∀ {b}, s.heap.objs.size ≤ b → s.heap.get? b = none := fun {b} hb => by
    cases q : s.heap.get? b with
    | none => rfl
    | some o => exact absurd (Heap.lt_size q) (Nat.not_lt.mpr hb)
  have kn : ∀ {b}, s.heap.objs.size ≤ b → kz b = none ∧ z b = none := fun {b} hb => by
    have := notin hb
    constructor
    · cases q : kz b with
      | none => rfl
      | some o => rw [hkz _ _ q] at this; cases this
    · cases q : z b with
      | none => rfl
      | some o => rw [B.froz _ _ q] at this; cases this
  have S : Sim hT os0 scope (newEnv scope s.heap.objs.size mainGlobals (cellsFrom (s.heap.objs.size + 1) scope.names []) (name ++ ".<locals>.") (some f) cd none builtinsNs) σ kz z s1 := by
    refine ⟨hkz.trans x.toInCall.keep, B.froz.trans x.toInCall.keep, hkt, B.1, by rw [e1]; exact B.gens, by rw [e1]; exact B.os, kn (Nat.le_refl _), fun y hy => ?_, fun y y' ca h1 h2 h3 h4 => apart_eq x.apart (mem_of_lookup h3) (mem_of_lookup h4), ?_⟩
    · have hs := W.cellsFrom_some (x := y) scope.names (s.heap.objs.size + 1) [] (.inl hy)
      obtain ⟨ca, hca⟩ := Option.isSome_iff_exists.mp hs
      obtain ⟨k1, k2⟩ := kn (Nat.le_of_lt (x.above y ca (mem_of_lookup hca)))
      exact ⟨ca, _, hca, x.cell y ca hca, k1, k2⟩
    · obtain ⟨al, hal⟩ : ∃ al : Str → Addr, al = fun y => match σ.lookup y with | some (.own (some a) _) => a | _ => 0 := ⟨_, rfl⟩
      refine ⟨_, al, x.toInCall.ns, fun y lv hy => ?_, fun y y' p q a b h1 h2 _ => hB.one _ _ _ _ _ _ h1 h2⟩
      obtain ⟨v, hv, hH⟩ := hB.get y lv hy
      refine ⟨v, ?_, ?_⟩
      · rcases hkind _ (keys _ hv) with h | h
        · exact .loc h (bindL_get _ h _ _ nodupZ hv)
        · have hs := W.cellsFrom_some (x := y) scope.names (s.heap.objs.size + 1) [] (.inl h)
          obtain ⟨ca, hca⟩ := Option.isSome_iff_exists.mp hs
          refine .cell ca h hca ?_
          have := x.cell y ca hca
          rw [bindC_get _ h _ _ nodupZ hv] at this
          exact this
      · cases lv with
        | val d => exact hH
        | own p ds =>
          obtain ⟨a, rfl, ⟨us, n, h2, h3⟩, h4, h5, rfl⟩ := hH
          have ea : al y = a := by rw [hal]; simp only [hy]
          exact ⟨congrArg Value.ref ea.symm, ⟨us, n, by rw [ea]; exact x.toInCall.keep _ _ h2, h3⟩, by rw [ea]; exact h4, by rw [ea]; exact h5, fun b q => by rw [ea]; cases q; rfl⟩
  refine wpAny_mono (body_ok.step (X := fun f s₃ => _) eok (deeper_room hr) S fun fv fl σ2 z2 s2 g2 S2 r2 hX => ?_) (fun _ _ q => q) fun _ _ q => q.elim
  cases hX with
  | ret hX => cases r2 with | ret rr => exact ret _ _ σ2 _ z2 s2 hX eok g2 S2 rr
  | next hX => cases r2 with | next => exact ret _ _ σ2 _ z2 s2 hX eok g2 S2 .none

inductive ZipAt (z : Fz) (xs : List Str) (vs : List Value) (x : Str) : LV → Prop where
  | mk (v : Value) (d : D) : (x, v) ∈ xs.zip vs → Rep z v d → ZipAt z xs vs x (.val d)
theorem zip_lookup {xs : List Str} : ∀ {vs : List Value} {ds : List D} {xs : List Str} {x : Str} {lv : LV}, RepL z vs ds → (xs.zip (ds.map LV.val)).lookup x = some lv → ZipAt z xs vs x lv
  | _, _, [], _, _, _, h => by simp at h
  | _, _, _ :: _, _, _, .nil, h => by simp at h
  | _, _, y :: xs, x, lv, .cons (v := v) (d := d) a b, h => by
    simp only [List.map_cons, List.zip_cons_cons] at h
    rcases look_cons h with ⟨rfl, rfl⟩ | ⟨h1, h2⟩
    · exact ⟨v, d, .head _, a⟩
    · obtain ⟨v', d', h3, h5⟩ := zip_lookup (xs := xs) b h2
      exact ⟨v', d', .tail _ h3, h5⟩

noncomputable def fnOk (scope : Scope) (xs : List Str) : Bool := decide xs.Nodup && xs.all (varB scope) && !scope.isCoroutine && !scope.isGenerator && (match scope.kind with | .function => true | _ => false)
theorem fnOk_at {scope : Scope} {xs : List Str} (h : fnOk scope xs = true) : xs.Nodup ∧ (∀ x ∈ xs, isVar scope x) ∧ scope.isCoroutine = false ∧ scope.isGenerator = false ∧ scope.kind = .function := by
  simp only [fnOk, Bool.and_eq_true, decide_eq_true_eq, List.all_eq_true, Bool.not_eq_true'] at h
  obtain ⟨⟨⟨⟨h1, h2⟩, h3⟩, h4⟩, h5⟩ := h
  refine ⟨h1, fun x hx => varB_at (h2 x hx), h3, h4, ?_⟩
  split at h5
  · assumption
  · cases h5
/-- a def: what its body does, its call does -/
theorem fn_opF {f : Addr} {name : Str} {params : Arguments} {body : List Stmt} {scope : Scope} {ds : List D} {xs : List Str} {K : D → Prop}
    (hf : FnAt hT f name params body scope) (hlim : hT.NoLimit)
    (hbind : ∀ pm cd doc (vs : List Value), vs.length = ds.length → bindArgs (docDef name params body scope pm cd doc) ⟨vs, []⟩ = pure (xs.zip vs))
    (body_ok : ∀ Q, Imp (KEnd fun r _ => K r) Q → WXs prog w hT os0 k scope body (xs.zip (ds.map LV.val)) Q)
    (ho : fnOk scope xs = true := by rfl) :
    Op prog w hT os0 (k + 1) ds (callT (.ref f)) K := by
  obtain ⟨hnd, hkind, hco, hgen, hk⟩ := fnOk_at ho
  intro A s z vs hr B rr
  refine enter_fn (kz := s.heap.get?) (X := fun r _ => K r) hf hlim hr B Le.rfl (B.1.trans B.froz) _ ⟨fun x lv h => ?_, fun x y p q a b h1 h2 => ?_⟩ (fun pm cd doc => hbind pm cd doc vs rr.length) hnd hkind (body_ok _ fun _ _ x => x) ?_ hco hgen hk
  · obtain ⟨v, d, h1, h2⟩ := zip_lookup (xs := xs) rr h
    exact ⟨v, h1, h2⟩
  · cases zip_lookup (xs := xs) rr h1
  · intro r v σ' env' z' s' hK _ g S rv
    exact ⟨r, z', ⟨S.keep, g, S.froz, S.gens.trans B.gens.symm, S.os.trans B.os.symm⟩, rv, hK⟩
end
end Smith

end

section
namespace Smith

noncomputable def relS (scope sc : Scope) : Scope :=
  { scope with names := scope.names.map fun (n, k) => if (k == NameKind.free && sc.kind == .function && sc.names.lookup n == some .cell) then (n, NameKind.cell) else (n, k) }
theorem relabel_eq {scope sc : Scope} {env : Env} (h : env.scope = sc) : relabel scope env = relS scope sc := by subst h; rfl
noncomputable def capt (scope : Scope) (x : Str) : Bool := scope.names.lookup x == some .free

section
variable {prog : Program} {w : World} {hT : Heap} {os0 : OsState} {sc : Scope} {k : Nat} {σ : St} {env : Env} {kz z : Fz} {s : Shared} {A : Around}

/-- the list that a comprehension fills: kept apart, its items known -/
inductive AccSt (hT : Heap) (os0 : OsState) (sc : Scope) (env : Env) (kz : Fz) (a : Addr) (σ : St) (z : Fz) (s : Shared) (xs : List D) : Prop where
  | mk (vs : List Value) (n : Nat) : Sim hT os0 sc env σ (kput kz a (lobj vs n)) z s → RepL z vs xs → kz a = none → z a = none → AccSt hT os0 sc env kz a σ z s xs

theorem Grow.unput {a : Addr} {o : Obj} {z' : Fz} (g : Grow (kput kz a o) z z') (hz : z a = none) : Grow kz z z' ∧ z' a = none := by
  refine ⟨⟨g.1, fun b o' e => (g.2 b o' e).imp id fun q => (kput_none q).2⟩, ?_⟩
  cases q : z' a with
  | none => rfl
  | some o' =>
    rcases g.2 a o' q with e | e
    · rw [hz] at e; cases e
    · exact ((kput_none e).1 (Eq.refl a)).elim

/-- another object at the address that is kept -/
theorem Sim.kupd {a : Addr} {vs vs' : List Value} {n n' : Nat} {h' : Heap} {t : Nat} (S : Sim hT os0 sc env σ (kput kz a (lobj vs n)) z s) (hk : kz a = none) (hz : z a = none) (ht : Le hT.get? kz)
    (ha : h'.get? a = some (lobj vs' n')) (hs : ∀ b o, b ≠ a → s.heap.get? b = some o → h'.get? b = some o) : Sim hT os0 sc env σ (kput kz a (lobj vs' n')) z { s with heap := h', toks := t } := by
  obtain ⟨k1, k2, k3, k4, k5, k6, k7, k8, k9, m, α, h1, h2, h3⟩ := S
  have nn : ∀ {b}, kput kz a (lobj vs n) b = none → kput kz a (lobj vs' n') b = none := fun {b} e => by
    obtain ⟨e1, e2⟩ := kput_none e
    rw [kput_ne e1]; exact e2
  have here : s.heap.get? a = some (lobj vs n) := k1 _ _ (by simp [kput, zput])
  refine ⟨fun b o e => ?_, fun b o e => hs b o (fun q => by rw [q, hz] at e; cases e) (k2 _ _ e), ht.trans (zput_le hk), k4, k5, k6, ⟨nn k7.1, k7.2⟩, fun x hx => ?_, k9, m, α, ?_, fun x lv e => ?_, h3⟩
  · by_cases hb : b = a
    · subst hb
      rw [show kput kz b (lobj vs' n') b = some (lobj vs' n') by simp [kput, zput]] at e
      cases e; exact ha
    · rw [kput_ne hb] at e
      exact hs b o hb (k1 _ _ (by rw [kput_ne hb]; exact e))
  · obtain ⟨ca, v, a1, ⟨o, a2, a3⟩, a4, a5⟩ := k8 x hx
    exact ⟨ca, v, a1, ⟨o, hs _ _ (kput_none a4).1 a2, a3⟩, nn a4, a5⟩
  · obtain ⟨o, es, ep, ho, r⟩ := h1
    exact ⟨o, es, ep, hs _ _ (kput_none k7.1).1 ho, r⟩
  · obtain ⟨v, b1, b2⟩ := h2 x lv e
    refine ⟨v, ?_, ?_⟩
    · rcases b1 with ⟨a, b⟩ | ⟨ca, c1, c2, o, c3, c4⟩ | ⟨ca, o, c1, c2, c3, c4⟩
      · exact .loc a b
      · refine .cell ca c1 c2 ⟨o, hs _ _ ?_ c3, c4⟩
        rintro rfl
        rw [here] at c3; cases c3; cases c4
      · refine .free ca o c1 c2 ?_ c4
        by_cases hb : ca = a
        · subst hb
          rw [show kput kz ca (lobj vs n) ca = some (lobj vs n) by simp [kput, zput]] at c3
          cases c3; cases c4
        · rw [kput_ne hb] at c3 ⊢; exact c3
    · cases lv with
      | val d => exact b2
      | own p xs =>
        obtain ⟨d1, ⟨ws, n2, d2, d3⟩, d4, d5, d6⟩ := b2
        exact ⟨d1, ⟨ws, n2, hs _ _ (kput_none d4).1 d2, d3⟩, nn d4, d5, d6⟩

/-- one turn's element: reckoned and appended -/
theorem emit_elt {elt : Expr} {a : Addr} {xs : List D} {K : D → St → Prop} {X : Shared → Prop} (he : EnvOk sc env) (hr : Room k A) (h : AccSt hT os0 sc env kz a σ z s xs) (ht : Le hT.get? kz) (hsz : xs.length ≤ sizeLine)
    (he1 : WE prog w hT os0 k sc elt σ K) (f : ∀ d σ' z' s', K d σ' → Grow kz z z' → AccSt hT os0 sc env kz a σ' z' s' (xs ++ [d]) → X s') :
    wpAny (model prog w) A (eval elt env) (fun x s4 => wpAny (model prog w) A (call (.builtin "list.append") [.ref a, x]) (fun _ s5 => X s5) (fun _ _ => False) s4) (fun _ _ => False) s := by
  obtain ⟨vs, n, S, r, hk, hz⟩ := h
  refine he1.step he hr S fun v d σ1 z1 s1 g1 S1 r1 kd => ?_
  obtain ⟨g1', z1a⟩ := g1.unput hz
  have here : s1.heap.get? a = some (lobj vs n) := S1.keep _ _ (by simp [kput, zput])
  have r' := r.mono g1.1
  refine call_meets F.slot_list_append ⟨_, here, rfl⟩ F.entry_list_append (F.args_list_append_2 _ _) (list_append a vs.toArray n v (by simp [r'.length]; exact hsz)) ⟨here, ?_⟩
  obtain ⟨n2, hu⟩ := mapSeq_list (·.push v) here
  have hset : ((vs.toArray).push v).toList = vs ++ [v] := by simp
  rw [hset] at hu
  refine f d σ1 z1 _ kd g1' ⟨vs ++ [v], n2, ?_, r'.app (rep1 r1), hk, z1a⟩
  exact S1.kupd (t := s1.toks) hk z1a ht hu fun b o hb e => by rw [Heap.get?_update_other _ _ (Ne.symm hb)]; exact e

theorem kplus_kput {fp : List Addr} {h : Heap} {a : Addr} {o : Obj} (ha : a ∉ fp) : kplus (kput kz a o) fp h = kput (kplus kz fp h) a o := by
  funext b
  by_cases hb : b = a
  · subst hb; simp [kplus, kput, zput, ha]
  · rw [kput_ne hb]; unfold kplus; split
    · rfl
    · exact kput_ne hb

inductive SubK (P : St → Prop) (σ : St) : Prop where
  | mk (σ3 : St) : Sub σ3 σ → P σ3 → SubK P σ
inductive AccJ (hT : Heap) (os0 : OsState) (sc : Scope) (env : Env) (kz : Fz) (a : Addr) (z : Fz) (J : Nat → St → List D → Prop) (i : Nat) (s : Shared) : Prop where
  | mk (σ : St) (z' : Fz) (xs : List D) : Grow kz z z' → AccSt hT os0 sc env kz a σ z' s xs → J i σ xs → AccJ hT os0 sc env kz a z J i s
inductive LoopSt (hT : Heap) (os0 : OsState) (sc : Scope) (env : Env) (kz : Fz) (a : Addr) (z : Fz) (n : Nat) (I : Nat → Heap → Prop) (fp : List Addr) (J : Nat → St → List D → Prop) (j : Nat) (s' : Shared) : Prop where
  | mk (i : Nat) (σ' : St) (z' : Fz) (xs' : List D) : j = n - i → i ≤ n → Grow kz z z' → AccSt hT os0 sc env kz a σ' z' s' xs' → I i s'.heap → (∀ b ∈ fp, kz b = none ∧ z' b = none) → J i σ' xs' → LoopSt hT os0 sc env kz a z n I fp J j s'
/-- the loop of a comprehension -/
theorem comp_loop {e : Expr} {depth : Nat} {target : Expr} {it : Value} {a : Addr} {t : Sem Fin} {ipos : Pos} {n : Nat} {bT : Nat → St → St} {I : Nat → Heap → Prop} {fp : List Addr} {xs : List D} (J : Nat → St → List D → Prop)
    (hturn : compTurn e depth it (.ref a) env = (do
      standAt ipos
      match ← pyNext it with
      | none => pure (.done .next)
      | some v =>
        letOwnedTupleGo target it v
        assign target env v
        t))
    (hfr : (Code.compLoop e depth it (.ref a) env).isFrame = false) (hq : (Code.compLoop e depth it (.ref a) env).quiet = true) (hA : ∀ A : Around, A.under (Code.compLoop e depth it (.ref a) env) = A)
    (hr : Room k A) (X : IsIter prog w hT os0 sc env target it n bT z I fp) (hA0 : AccSt hT os0 sc env kz a σ z s xs) (ht : Le hT.get? kz) (hI : I 0 s.heap) (hO : Off kz z s.heap fp) (hJ : J 0 σ xs)
    (turn : ∀ i kz' z' s' σ' xs', i < n → Le hT.get? kz' → Le z z' → AccSt hT os0 sc env kz' a (bT i σ') z' s' xs' → J i σ' xs' →
      wpAny (model prog w) A t (fun fin s'' => fin = .again (.compLoop e depth it (.ref a) env) ∧ AccJ hT os0 sc env kz' a z' J (i + 1) s'') (fun _ _ => False) s') {R : Result → Shared → Prop}
    (fin : ∀ σ' z' s' xs', Grow kz z z' → AccSt hT os0 sc env kz a σ' z' s' xs' → J n σ' xs' → R (.ok .next) s') :
    codeAny (model prog w) A (.compLoop e depth it (.ref a) env) R s := by
  have noA : ∀ {h : Heap} {vs m}, h.get? a = some (lobj vs m) → (∀ b ∈ fp, ObjAt h b) → a ∉ fp := fun e h hm => by
    obtain ⟨o, e', h1, _⟩ := h a hm
    rw [e] at e'; cases e'; exact h1 rfl
  refine codeAny_loop hq (LoopSt hT os0 sc env kz a z n I fp J) (fun j s1 hj => ?_) n
    ⟨0, σ, z, xs, rfl, Nat.zero_le _, Grow.rfl, hA0, hI, fun b hb => ⟨(hO b hb).kn, (hO b hb).zn⟩, hJ⟩
  obtain ⟨i, σ1, z1, xs1, rfl, hi, g1, ⟨vs, m, S1, r1, hka, hza⟩, i1, o1, j1⟩ := hj
  rw [hA]
  have here : s1.heap.get? a = some (lobj vs m) := S1.keep _ _ (by simp [kput, zput])
  have ha := noA here (X.there _ _ i1)
  have off1 : Off (kput kz a (lobj vs m)) z1 s1.heap fp := fun b hb => ⟨X.there _ _ i1 b hb, by rw [kput_ne (by rintro rfl; exact ha hb)]; exact (o1 b hb).1, (o1 b hb).2⟩
  show wpAny _ A (if (Code.compLoop e depth it (.ref a) env).isFrame then (compTurn e depth it (.ref a) env).onRaise (leaving env) else (compTurn e depth it (.ref a) env).onRaise (fun x => do noteFrame x env; theTreesLotGoes x)) _ _ s1
  rw [hfr]
  simp only [Bool.false_eq_true, if_false]
  refine wpAny_noted ?_
  rw [hturn]
  refine wpAny_bind (wpAny_standAt (wpAny_bind ?_))
  rcases Nat.lt_or_ge i n with hlt | hge
  · refine wpAny_mono (X.step A σ1 _ z1 s1 i (hr.le (Nat.zero_le _)) hlt S1 g1.1 i1 off1) (fun r s2 ⟨v, e2, h2⟩ => ?_) fun _ _ x => x.elim
    subst e2
    refine wpAny_bind (wpAny_mono h2 (fun _ s3 h3 => wpAny_bind (wpAny_mono h3 (fun _ s4 ⟨S4, i4⟩ => ?_) fun _ _ x => x.elim)) fun _ _ x => x.elim)
    have off4 : Off (kput kz a (lobj vs m)) z1 s4.heap fp := fun b hb => ⟨X.there _ _ i4 b hb, (off1 b hb).kn, (off1 b hb).zn⟩
    have S5 := S4.protect off4
    rw [kplus_kput ha] at S5
    have kpl : kplus kz fp s4.heap a = none := by unfold kplus; rw [if_neg ha]; exact hka
    have hle : Le hT.get? (kplus kz fp s4.heap) := fun b o e => by
      unfold kplus; rw [if_neg (fun hb => by have := ht _ _ e; rw [(o1 b hb).1] at this; cases this)]; exact ht _ _ e
    refine wpAny_mono (turn i _ z1 s4 σ1 xs1 hlt hle g1.1 ⟨vs, m, S5, r1, kpl, hza⟩ j1) (fun fin5 s5 ⟨e5, σ3, z3, xs3, g3, ⟨vs3, m3, S6, r3, _, hz3⟩, j3⟩ => ?_) fun _ _ x => x.elim
    subst e5
    refine ⟨rfl, ?_⟩
    obtain ⟨g3', f3⟩ := g3.unprotect (fun b hb => ⟨X.there _ _ i4 b hb, (o1 b hb).1, (o1 b hb).2⟩)
    rw [← kplus_kput ha] at S6
    have S7 := S6.unprotect (z0 := z1) (ht.trans (zput_le hka)) fun b hb => ⟨X.there _ _ i4 b hb, by rw [kput_ne (by rintro rfl; exact ha hb)]; exact (o1 b hb).1, (o1 b hb).2⟩
    have i5 := X.stable _ _ _ (fun b hb o e => S6.keep b o (by unfold kplus; rw [if_pos hb]; exact e)) i4
    exact ⟨n - (i + 1), by (first | exact nq100 hlt | omega), i + 1, σ3, z3, xs3, rfl, hlt, g1.trans g3', ⟨vs3, m3, S7, r3, hka, hz3⟩, i5, fun b hb => ⟨(o1 b hb).1, f3 b hb⟩, j3⟩
  · obtain rfl : i = n := Nat.le_antisymm hi hge
    refine wpAny_mono (X.stop A σ1 _ z1 s1 (hr.le (Nat.zero_le _)) S1 g1.1 i1 off1) (fun r s2 ⟨e2, S2⟩ => ?_) fun _ _ x => x.elim
    subst e2
    exact wpAny_pure (fin σ1 z1 s2 xs1 g1 ⟨vs, m, S2, r1, hka, hza⟩ j1)
end
end Smith

end

section
namespace Smith

/-! ## the frame of a comprehension -/
noncomputable def closOf (cells : List (Str × Addr)) : List (Str × NameKind) → List (Str × Addr) → List (Str × Addr)
  | [], acc => acc
  | (n, k) :: r, acc => closOf cells r (if k == .free then (n, (cells.lookup n).getD 0) :: acc else acc)
theorem closure_eq {scope : Scope} {env : Env} (h : ∀ p ∈ scope.names, p.2 = .free → ∃ ca, env.cells.lookup p.1 = some ca) : closureFor scope env = pure (closOf env.cells scope.names []) := by
  have key : ∀ (names : List (Str × NameKind)) (acc : List (Str × Addr)) (f : Str × NameKind → List (Str × Addr) → Sem (ForInStep (List (Str × Addr)))),
      (∀ x r, f x r = if (x.2 == NameKind.free) = true then (do let a ← cellOf env x.1; pure (ForInStep.yield ((x.1, a) :: r))) else pure (ForInStep.yield r)) → (∀ p ∈ names, p.2 = .free → ∃ ca, env.cells.lookup p.1 = some ca) →
      forIn names acc f = pure (closOf env.cells names acc) := by
    intro names
    induction names with
    | nil => intro acc f hf _; rw [List.forIn_nil]; rfl
    | cons p r ih =>
      intro acc f hf hp
      obtain ⟨n, kd⟩ := p
      rw [List.forIn_cons, hf]
      cases hk : (kd == NameKind.free) with
      | false =>
        simp only [hk, Bool.false_eq_true, if_false, pure_bind]
        rw [ih acc f hf fun p h => hp p (.tail _ h), closOf]
        simp only [hk, Bool.false_eq_true, if_false]
      | true =>
        obtain ⟨ca, hca⟩ := hp (n, kd) (.head _) (by simpa using hk)
        have hc : cellOf env n = pure ca := by unfold cellOf; rw [hca]
        simp only [hk, if_true, hc, pure_bind]
        rw [ih _ f hf fun p h => hp p (.tail _ h), closOf]
        simp only [hk, if_true, hca, Option.getD_some]
  unfold closureFor
  dsimp only
  rw [key scope.names [] _ (fun x r => by obtain ⟨n, kd⟩ := x; cases hk : (kd == NameKind.free) <;> simp [hk]) h, pure_bind]

theorem closOf_look {cells : List (Str × Addr)} {x : Str} : ∀ (names : List (Str × NameKind)) (acc : List (Str × Addr)), ((x, .free) ∈ names ∨ acc.lookup x = some ((cells.lookup x).getD 0)) → (closOf cells names acc).lookup x = some ((cells.lookup x).getD 0)
  | [], acc, h => by rcases h with h | h; cases h; exact h
  | (n, k) :: r, acc, h => by
    rw [closOf]
    refine closOf_look r _ ?_
    by_cases hx : x = n
    · subst hx
      rcases h with h | h
      · by_cases hk : (k == NameKind.free) = true
        · right; rw [if_pos hk]; simp
        · rcases List.mem_cons.mp h with e | h
          · cases e; exact absurd rfl hk
          · exact .inl h
      · right; split
        · simp
        · exact h
    · rcases h with h | h
      · rcases List.mem_cons.mp h with e | h
        · cases e; exact absurd rfl hx
        · exact .inl h
      · right; split
        · rw [List.lookup_cons, show (x == n) = false by simpa using hx]; exact h
        · exact h
theorem cellsFrom_app : ∀ (names : List (Str × NameKind)) (n : Nat) (acc : List (Str × Addr)), cellsFrom n names acc = cellsFrom n names [] ++ acc
  | [], _, _ => rfl
  | (x, k) :: r, n, acc => by
    unfold cellsFrom
    split
    · rw [cellsFrom_app r (n + 1) ((x, n) :: acc), cellsFrom_app r (n + 1) [(x, n)]]; simp
    · exact cellsFrom_app r n acc
theorem cellsFrom_key {x : Str} {c : Addr} : ∀ (names : List (Str × NameKind)) (n : Nat), (x, c) ∈ cellsFrom n names [] → (x, .cell) ∈ names
  | (y, k) :: r, n, h => by
    unfold cellsFrom at h
    split at h
    · rename_i hk
      rw [cellsFrom_app] at h
      rcases List.mem_append.mp h with h | h
      · exact .tail _ (cellsFrom_key r _ h)
      · rcases List.mem_singleton.mp h with e; cases e
        rw [show k = NameKind.cell by simpa using hk]; exact .head _
    · exact .tail _ (cellsFrom_key r _ h)
theorem look_app {β : Type} {x : Str} : ∀ (l m : List (Str × β)), (l ++ m).lookup x = (l.lookup x).or (m.lookup x)
  | [], m => by simp
  | (y, v) :: r, m => by
    simp only [List.cons_append, List.lookup_cons]
    split
    · rfl
    · exact look_app r m

section
variable {prog : Program} {w : World} {hT : Heap} {os0 : OsState} {sc : Scope} {k : Nat} {σ : St} {env : Env} {kz z : Fz} {s : Shared} {A : Around}

noncomputable abbrev compFrame (scope : Scope) (cl : List (Str × Addr)) (C : Addr) (env : Env) : Env :=
  { scope := scope, locals := C, globals := env.globals, cells := cellsFrom (C + 1) scope.names cl, qual := env.qual, func := none, code := env.code, frame := env.frame, builtins := env.builtins }

theorem new_comp_env {M : Model} {scope : Scope} {cl : List (Str × Addr)} {E : Value → Shared → Prop} {Q : Env → Shared → Prop}
    (h : Q (compFrame scope cl s.heap.objs.size env) { s with heap := pushCells (s.heap.push { cls := .type "dict", data := .dict #[] }) scope.names }) :
    wpAny M A (newFunctionEnv scope env.globals cl [] env.qual none .none (some env)) Q E s := by
  simp only [newFunctionEnv, Option.isSome_some, if_true]
  refine wpAny_bind (wpAny_alloc ?_)
  refine wpAny_bind (wpAny_layCells _ (fun name kind cells => by cases hkc : kind == NameKind.cell <;> simp [hkc]) _ _ _ _ ?_)
  rw [show ({ s with heap := s.heap.push { cls := .type "dict", data := .dict #[] } } : Shared).heap.objs.size = s.heap.objs.size + 1 from Heap.size_push ..]
  refine wpAny_bind ?_
  rw [List.forIn_nil]
  exact wpAny_pure (wpAny_pure h)

theorem lookup_map_kind (f : Str → NameKind → NameKind) {x : Str} : ∀ l : List (Str × NameKind), (l.map fun (n, k) => (n, f n k)).lookup x = (l.lookup x).map (f x)
  | [] => rfl
  | (n, kd) :: r => by
    simp only [List.map_cons, List.lookup_cons]
    by_cases hx : x = n
    · subst hx; simp
    · rw [show (x == n) = false by simpa using hx]; exact lookup_map_kind f r
theorem lookup_relS {scope sc : Scope} {x : Str} : (relS scope sc).names.lookup x = (scope.names.lookup x).map fun k => if (k == NameKind.free && sc.kind == .function && sc.names.lookup x == some .cell) then NameKind.cell else k := by
  have := lookup_map_kind (fun n k => if (k == NameKind.free && sc.kind == .function && sc.names.lookup n == some .cell) then NameKind.cell else k) (x := x) scope.names
  rw [← this]
  unfold relS
  show (List.map _ scope.names).lookup x = _
  congr 1
  refine List.map_congr_left fun p _ => ?_
  obtain ⟨n, kd⟩ := p
  dsimp only
  split <;> rfl
end
end Smith

end

section
namespace Smith

section
variable {prog : Program} {w : World} {hT : Heap} {os0 : OsState} {sc : Scope} {k : Nat} {σ : St} {env : Env} {kz z : Fz} {s : Shared} {A : Around}

open Classical in
/-- what must be kept while a comprehension runs: all but what is captured, and the iterator's parts -/
noncomputable def kzc (h : Heap) (cap : Addr → Prop) : Fz := fun b => if cap b then none else h.get? b
theorem kzc_some {h : Heap} {cap : Addr → Prop} {b : Addr} {o : Obj} (e : kzc h cap b = some o) : ¬ cap b ∧ h.get? b = some o := by
  unfold kzc at e; split at e
  · cases e
  · exact ⟨by assumption, e⟩
theorem kzc_of {h : Heap} {cap : Addr → Prop} {b : Addr} {o : Obj} (hc : ¬ cap b) (e : h.get? b = some o) : kzc h cap b = some o := by unfold kzc; rw [if_neg hc]; exact e
theorem kzc_cap {h : Heap} {cap : Addr → Prop} {b : Addr} (hc : cap b) : kzc h cap b = none := by unfold kzc; rw [if_pos hc]
theorem kzc_new {h : Heap} {cap : Addr → Prop} {b : Addr} (e : h.get? b = none) : kzc h cap b = none := by
  unfold kzc; split
  · rfl
  · exact e

/-- the names that a comprehension takes from the block around it are captured there -/
structure CompScope (scope sc : Scope) : Prop where
  kind : scope.kind = .function
  locals : ∀ x ∈ scope.names, x.2 = .local → scope.names.lookup x.1 = some .local
  free : ∀ x ∈ scope.names, x.2 = .free → sc.names.lookup x.1 = some .cell
  nodup : (scope.names.map (·.1)).Nodup

theorem lookup_of_mem {β : Type} {x : Str} {y : β} : ∀ {l : List (Str × β)}, (l.map (·.1)).Nodup → (x, y) ∈ l → l.lookup x = some y
  | (a, b) :: r, nd, h => by
    simp only [List.map_cons, List.nodup_cons] at nd
    rcases List.mem_cons.mp h with e | h
    · cases e; simp
    · have : x ≠ a := fun q => nd.1 (q ▸ List.mem_map_of_mem (f := (·.1)) h)
      rw [List.lookup_cons, show (x == a) = false by simpa using this]
      exact lookup_of_mem nd.2 h

theorem filter_lookup {scope : Scope} {x : Str} {lv : LV} : ∀ {σ1 : St}, (σ1.filter fun p => !capt scope p.1).lookup x = some lv → capt scope x = false → σ1.lookup x = some lv
  | [], e, _ => e
  | (y, l) :: r, e, hx => by
    by_cases hy : x = y
    · subst hy
      rw [List.filter_cons, if_pos (by simp [hx])] at e
      simpa [List.lookup_cons] using e
    · rw [List.lookup_cons, show (x == y) = false by simpa using hy]
      refine filter_lookup ?_ hx
      rw [List.filter_cons] at e
      split at e
      · rw [List.lookup_cons, show (x == y) = false by simpa using hy] at e; exact e
      · exact e
theorem cell_kind {scope : Scope} (C : CompScope scope sc) (hsc : sc.kind = .function) {x : Str} (h : (relS scope sc).names.lookup x = some .cell) :
    scope.names.lookup x = some .cell ∨ (scope.names.lookup x = some .free ∧ sc.names.lookup x = some .cell) := by
  rw [lookup_relS] at h
  cases q : scope.names.lookup x with
  | none => rw [q] at h; cases h
  | some kd =>
    rw [q] at h
    simp only [Option.map_some, Option.some.injEq] at h
    split at h
    · rename_i hc
      simp only [Bool.and_eq_true, beq_iff_eq] at hc
      exact .inr ⟨by rw [hc.1.1], hc.2⟩
    · subst h; exact .inl rfl
theorem capt_kind {scope : Scope} (C : CompScope scope sc) (hsc : sc.kind = .function) {x : Str} (h : capt scope x = true) : scope.names.lookup x = some .free ∧ sc.names.lookup x = some .cell ∧ (relS scope sc).names.lookup x = some .cell := by
  have h1 : scope.names.lookup x = some .free := by simpa [capt] using h
  have h2 := C.free _ (mem_of_lookup h1) rfl
  refine ⟨h1, h2, ?_⟩
  rw [lookup_relS, h1]
  simp [hsc, h2]

/-- what a comprehension's loop does, whoever stands around -/
def CLoop (prog : Program) (w : World) (hT : Heap) (os0 : OsState) (k : Nat) (sc : Scope) (e target : Expr) (n : Nat) (bT : Nat → St → St) (σ : St) (K : St → List D → Prop) : Prop :=
  ∀ env A s kz z a it I fp, EnvOk sc env → Room k A → IsIter prog w hT os0 sc env target it n bT z I fp → AccSt hT os0 sc env kz a σ z s [] → Le hT.get? kz → I 0 s.heap →
    Off kz z s.heap fp → ∀ R : Result → Shared → Prop, (∀ σ' z' s' xs', Grow kz z z' → AccSt hT os0 sc env kz a σ' z' s' xs' → K σ' xs' → R (.ok .next) s') →
    codeAny (model prog w) A (.compLoop e 0 it (.ref a) env) R s

inductive CompEnd (hT : Heap) (os0 : OsState) (sc : Scope) (env : Env) (kz z0 : Fz) (Q : LV → St → Prop) (a C : Addr) (s5 : Shared) : Prop where
  | mk (lv : LV) (σ' : St) (z' kz1 : Fz) : kz1 C = none → z' C = none → C ≠ env.locals → Grow kz z0 z' → Slot kz z' (.ref a) kz1 lv → Q lv σ' → (∀ h', Heap.SameBut C s5.heap h' → Sim hT os0 sc env σ' kz1 z' { s5 with heap := h' }) → CompEnd hT os0 sc env kz z0 Q a C s5
/-- what a comprehension's scope must come to in the end -/
inductive CompOut (scope : Scope) (σ1 : St) (Q : LV → St → Prop) (σe : St) (xs : List D) : Prop where
  | mk (σo : St) : Sub σo σe → (∀ p ∈ σo, capt scope p.1 = true) → Q (.own none xs) (σo ++ σ1.filter fun p => !capt scope p.1) → CompOut scope σ1 Q σe xs
inductive Cap (scope : Scope) (env : Env) (σ1 : St) (α : Str → Addr) (fp : List Addr) (b : Addr) : Prop where
  | cell (x : Str) : capt scope x = true → env.cells.lookup x = some b → Cap scope env σ1 α fp b
  | own (x : Str) (p : Option Addr) (xs : List D) : capt scope x = true → σ1.lookup x = some (.own p xs) → α x = b → Cap scope env σ1 α fp b
  | fp : b ∈ fp → Cap scope env σ1 α fp b
theorem comp_whole {elt target iter : Expr} {ifs : List Expr} {gens : List Comprehension} {scope : Scope} {pos : Pos} {σ1 σc : St} {n : Nat} {bT : Nat → St → St} {I : Nat → Heap → Prop} {fp : List Addr} {z0 : Fz} {it : Value} {s2 : Shared} {K : St → List D → Prop} {Q : LV → St → Prop}
    (C : CompScope scope sc) (he : EnvOk sc env) (hr : Room k A) (g : Grow kz z0 z) (S : Sim hT os0 sc env σ1 kz z s2) (X : ∀ env', EnvOk (relS scope sc) env' → IsIter prog w hT os0 (relS scope sc) env' target it n bT z I fp) (i0 : I 0 s2.heap) (o1 : Off kz z s2.heap fp)
    (hsub : Sub σc σ1) (hcap : ∀ p ∈ σc, capt scope p.1 = true)
    (loop : CLoop prog w hT os0 k (relS scope sc) (.ListComp elt (⟨target, iter, ifs, 0⟩ :: gens) scope pos) target n bT σc K)
    (fin : ∀ σe xs, K σe xs → CompOut scope σ1 Q σe xs)
    (hq1 : ∀ it acc env, (Code.compLoop (.ListComp elt (⟨target, iter, ifs, 0⟩ :: gens) scope pos) 0 it acc env).quiet = true) {E : Value → Shared → Prop} {R : Value → Addr → Result → Shared → Prop}
    (fin2 : ∀ a C s5 m, s5.heap.Ns C m → CompEnd hT os0 sc env kz z0 Q a C s5 → R (.ref a) C (.ok .next) s5) :
    wpAny (model prog w) A (newList []) (fun acc s₃ => wpAny (model prog w) A (newFunctionEnv scope env.globals (closOf env.cells scope.names []) [] env.qual none .none (some env)) (fun cenv s₄ =>
        codeAny (model prog w) A (.compStart (.ListComp elt (⟨target, iter, ifs, 0⟩ :: gens) scope pos) 0 it acc { cenv with scope := relabel scope env }) (R acc cenv.locals) s₄) E s₃) E s2 := by
  have hsc : sc.kind = .function := he.kind
  refine wpAny_newObj_type ?_
  refine new_comp_env ?_
  rw [relabel_eq he.scope]
  -- the addresses
  have e3 : (s2.heap.push (lobj [] 0)).objs.size = s2.heap.objs.size + 1 := Heap.size_push ..
  show codeAny _ A (.compStart _ 0 it (.ref s2.heap.objs.size) { compFrame scope (closOf env.cells scope.names []) (s2.heap.push (lobj [] 0)).objs.size env with scope := relS scope sc }) (R (.ref s2.heap.objs.size) (s2.heap.push (lobj [] 0)).objs.size) { s2 with heap := pushCells ((s2.heap.push (lobj [] 0)).push { cls := .type "dict", data := .dict #[] }) scope.names }
  rw [e3]
  generalize hH : pushCells ((s2.heap.push (lobj [] 0)).push { cls := .type "dict", data := .dict #[] }) scope.names = H
  generalize ha : s2.heap.objs.size = a
  have anone : s2.heap.get? a = none := ha ▸ get_new
  have above : ∀ {b}, a ≤ b → s2.heap.get? b = none := fun {b} hb => by
    cases q : s2.heap.get? b with
    | none => rfl
    | some o => exact absurd (Heap.lt_size q) (Nat.not_lt.mpr (ha ▸ hb))
  have old : Le s2.heap.get? H.get? := fun b o e => hH ▸ pushCells_keeps _ _ b o (get_push _ _ _ (get_push _ _ _ e))
  have hAt : H.get? a = some (lobj [] 0) := hH ▸ ha ▸ pushCells_keeps _ _ _ _ (get_push _ _ _ (Heap.get?_push_size _ rfl))
  have hC : H.Ns (a + 1) fun _ => none := by
    have := (Heap.Ns.new (s2.heap.push (lobj [] 0)) (.type "dict")).keeps (pushCells_keeps scope.names _)
    rw [e3, hH, ha] at this; exact this
  have hcs : CellsOk H (a + 2) (cellsFrom (a + 2) scope.names []) := by
    have := cellsFrom_ok scope.names ((s2.heap.push (lobj [] 0)).push { cls := .type "dict", data := .dict #[] }) (a + 2) [] ⟨fun _ _ h => (nomatch h), List.Pairwise.nil⟩ (by rw [Heap.size_push, e3, ha]; exact Nat.le_refl _)
    rw [Heap.size_push, e3, hH, ha] at this; exact this
  have kn : ∀ {b}, a ≤ b → kz b = none ∧ z b = none := fun {b} hb => by
    have := above hb
    constructor
    · cases q : kz b with
      | none => rfl
      | some o => rw [S.keep _ _ q] at this; cases this
    · cases q : z b with
      | none => rfl
      | some o => rw [S.froz _ _ q] at this; cases this
  have below : ∀ {b o}, s2.heap.get? b = some o → b < a := fun {b o} e => by
    rcases Nat.lt_or_ge b a with h | h
    · exact h
    · rw [above h] at e; cases e
  obtain ⟨m, α, L1, L2, L3⟩ := S.loc
  -- what is captured
  let cl := closOf env.cells scope.names []
  let cap : Addr → Prop := Cap scope env σ1 α fp
  have capCell : ∀ {x}, capt scope x = true → CellAt env kz z s2.heap x := fun h => S.cellT _ (capt_kind C hsc h).2.1
  have capNone : ∀ {b}, cap b → kz b = none ∧ z b = none ∧ ∃ o, s2.heap.get? b = some o := by
    rintro b (⟨x, h1, h2⟩ | ⟨x, p, xs, h1, h2, rfl⟩ | h)
    · obtain ⟨ca, v, c1, ⟨o, c2, _⟩, c3, c4⟩ := capCell h1
      rw [c1] at h2; cases h2
      exact ⟨c3, c4, o, c2⟩
    · obtain ⟨v, _, _, ⟨vs, n, c2, _⟩, c3, c4, _⟩ := L2 x _ h2
      exact ⟨c3, c4, _, c2⟩
    · obtain ⟨⟨o, c1, _⟩, c2, c3⟩ := o1 b h
      exact ⟨c2, c3, o, c1⟩
  have notCap : ∀ {b o}, kz b = some o → ¬ cap b := fun e h => by rw [(capNone h).1] at e; cases e
  have kzle : ∀ {b o}, kz b = some o → kzc s2.heap cap b = some o := fun e => kzc_of (notCap e) (S.keep _ _ e)
  have Lnot : ¬ cap env.locals := by
    rintro (⟨x, h1, h2⟩ | ⟨x, p, xs, h1, h2, h3⟩ | h)
    · obtain ⟨ca, v, c1, c2, _⟩ := capCell h1
      rw [c1] at h2; cases h2
      exact cell_not_dict c2 L1 rfl
    · obtain ⟨v, _, _, ⟨vs, n, c2, _⟩, _⟩ := L2 x _ h2
      exact list_not_dict c2 L1 h3
    · obtain ⟨⟨o, c1, _, c2, _⟩, _⟩ := o1 _ h
      obtain ⟨o', es, ep, d1, d2, _⟩ := L1
      rw [c1] at d1; cases d1; exact c2 _ _ d2
  have hLk : ∃ oL, kzc s2.heap cap env.locals = some oL := by
    obtain ⟨o', es, ep, d1, d2, _⟩ := id L1
    exact ⟨o', kzc_of Lnot d1⟩
  -- the cells of the new frame
  have keyNew : ∀ {x c}, (x, c) ∈ cellsFrom (a + 2) scope.names [] → scope.names.lookup x = some .cell := fun h => lookup_of_mem C.nodup (cellsFrom_key _ _ h)
  have clLook : ∀ {x}, capt scope x = true → cl.lookup x = env.cells.lookup x := fun {x} h => by
    obtain ⟨ca, v, c1, _⟩ := capCell h
    have := closOf_look (cells := env.cells) (x := x) scope.names [] (.inl (mem_of_lookup (capt_kind C hsc h).1))
    rw [show cl.lookup x = _ from this, c1]; rfl
  have cellsCap : ∀ {x}, capt scope x = true → (cellsFrom (a + 2) scope.names cl).lookup x = env.cells.lookup x := fun {x} h => by
    rw [cellsFrom_app, look_app]
    cases q : (cellsFrom (a + 2) scope.names []).lookup x with
    | none => exact clLook h
    | some c => have := keyNew (mem_of_lookup q); rw [(capt_kind C hsc h).1] at this; cases this
  have cellsNew : ∀ {x}, scope.names.lookup x = some .cell → ∃ c, (cellsFrom (a + 2) scope.names cl).lookup x = some c ∧ (x, c) ∈ cellsFrom (a + 2) scope.names [] := fun {x} h => by
    rw [cellsFrom_app, look_app]
    have hs := W.cellsFrom_some (x := x) scope.names (a + 2) [] (.inl h)
    obtain ⟨c, hc⟩ := Option.isSome_iff_exists.mp hs
    exact ⟨c, by rw [hc]; rfl, mem_of_lookup hc⟩
  let cenv : Env := { compFrame scope cl (a + 1) env with scope := relS scope sc }
  have eok : EnvOk (relS scope sc) cenv := ⟨rfl, C.kind, he.glob, he.blt⟩
  have hcells : cenv.cells = cellsFrom (a + 2) scope.names cl := rfl
  have cellAt : ∀ {x}, (relS scope sc).names.lookup x = some .cell → (∃ c, cenv.cells.lookup x = some c ∧ (x, c) ∈ cellsFrom (a + 2) scope.names []) ∨ (capt scope x = true ∧ cenv.cells.lookup x = env.cells.lookup x) := fun {x} h => by
    rcases cell_kind C hsc h with h | ⟨h1, h2⟩
    · exact .inl (cellsNew h)
    · have : capt scope x = true := by simp [capt, h1]
      exact .inr ⟨this, cellsCap this⟩
  have kznew : ∀ {b}, a < b → kput (kzc s2.heap cap) a (lobj [] 0) b = none ∧ z b = none := fun {b} hb => ⟨by rw [kput_ne (Nat.ne_of_gt hb)]; exact kzc_new (above (Nat.le_of_lt hb)), (kn (Nat.le_of_lt hb)).2⟩
  have kcap : ∀ {b}, cap b → kput (kzc s2.heap cap) a (lobj [] 0) b = none := fun {b} hb => by
    obtain ⟨_, _, o, ho⟩ := capNone hb
    rw [kput_ne (Nat.ne_of_lt (below ho))]; exact kzc_cap hb
  have SA : AccSt hT os0 (relS scope sc) cenv (kzc s2.heap cap) a σc z { s2 with heap := H } [] := by
    refine ⟨[], 0, ⟨fun b o e => ?_, S.froz.trans old, fun b o e => ?_, S.topz, S.gens, S.os, kznew (Nat.lt_succ_self a), fun x hx => ?_, fun x y ca hx hy h1 h2 => ?_, fun _ => none, α, hC, fun x lv e => ?_, fun x y p q xs ys e1 e2 => L3 x y p q xs ys (hsub.get e1) (hsub.get e2)⟩, .nil, kzc_new anone, (kn (Nat.le_refl a)).2⟩
    · by_cases hb : b = a
      · subst hb
        rw [show kput (kzc s2.heap cap) b (lobj [] 0) b = some (lobj [] 0) by simp [kput, zput]] at e
        cases e; exact hAt
      · rw [kput_ne hb] at e; exact old _ _ (kzc_some e).2
    · have := kzle (S.top _ _ e)
      exact zput_le (kzc_new anone) _ _ this
    · rcases cellAt hx with ⟨c, h1, h2⟩ | ⟨h1, h2⟩
      · obtain ⟨h3, h4⟩ := hcs.empty _ _ h2
        obtain ⟨k1, k2⟩ := kznew (Nat.lt_of_lt_of_le (Nat.lt_succ_of_lt (Nat.lt_succ_self a)) h4)
        exact ⟨c, none, h1, h3, k1, k2⟩
      · obtain ⟨ca, v, c1, ⟨o, c2, c3⟩, c4, c5⟩ := capCell h1
        exact ⟨ca, v, h2.trans c1, ⟨o, old _ _ c2, c3⟩, kcap (.cell x h1 c1), c5⟩
    · rcases cellAt hx with ⟨c, f1, f2⟩ | ⟨f1, f2⟩ <;> rcases cellAt hy with ⟨d, g1, g2⟩ | ⟨g1, g2⟩
      · rw [f1] at h1; rw [g1] at h2; cases h1; cases h2
        exact apart_eq hcs.apart f2 g2
      · rw [f1] at h1; cases h1
        obtain ⟨ca', v, c1, ⟨o, c2, _⟩, _⟩ := capCell g1
        rw [g2, c1] at h2; cases h2
        exact absurd (below c2) (Nat.not_lt.mpr (Nat.le_trans (Nat.le_add_right a 2) (hcs.empty _ _ f2).2))
      · rw [g1] at h2; cases h2
        obtain ⟨ca', v, c1, ⟨o, c2, _⟩, _⟩ := capCell f1
        rw [f2, c1] at h1; cases h1
        exact absurd (below c2) (Nat.not_lt.mpr (Nat.le_trans (Nat.le_add_right a 2) (hcs.empty _ _ g2).2))
      · exact S.cellD x y ca (capt_kind C hsc f1).2.1 (capt_kind C hsc g1).2.1 (f2 ▸ h1) (g2 ▸ h2)
    · have hcx := hcap _ (mem_of_lookup e)
      obtain ⟨h1, h2, h3⟩ := capt_kind C hsc hcx
      have e' := hsub.get e
      obtain ⟨v, hv, hH'⟩ := L2 x lv e'
      refine ⟨v, ?_, ?_⟩
      · rcases hv with ⟨b1, _⟩ | ⟨ca, _, b2, o, b3, b4⟩ | ⟨_, _, b1, _⟩
        · rw [h2] at b1; cases b1
        · exact .cell ca h3 ((cellsCap hcx).trans b2) ⟨o, old _ _ b3, b4⟩
        · rw [h2] at b1; cases b1
      · cases lv with
        | val d => exact hH'
        | own p xs =>
          obtain ⟨d1, ⟨ws, n2, d2, d3⟩, d4, d5, d6⟩ := hH'
          exact ⟨d1, ⟨ws, n2, old _ _ d2, d3⟩, kcap (.own x p xs hcx e' rfl), d5, d6⟩
  have topc : Le hT.get? (kzc s2.heap cap) := fun b o e => kzle (S.top _ _ e)
  have iH : I 0 H := (X cenv eok).stable 0 _ _ (fun b hb o e => old _ _ e) i0
  have oH : Off (kzc s2.heap cap) z H fp := fun b hb => ⟨let ⟨o, c1, c2⟩ := (o1 b hb).obj; ⟨o, old _ _ c1, c2⟩, kzc_cap (.fp hb), (o1 b hb).zn⟩
  have main : codeAny (model prog w) A (.compLoop (.ListComp elt (⟨target, iter, ifs, 0⟩ :: gens) scope pos) 0 it (.ref a) cenv) (R (.ref a) (a + 1)) { s2 with heap := H } := by
    refine loop cenv A { s2 with heap := H } _ z a it I fp eok hr (X cenv eok) SA topc iH oH _ fun σe ze s5 xs g5 ⟨vs5, n5, S5, r5, k5, z5⟩ kf => ?_
    obtain ⟨m5, α5, M1, M2, M3⟩ := id S5.loc
    have M1 : s5.heap.Ns (a + 1) m5 := M1
    obtain ⟨σo, so1, so2, q5⟩ := fin σe xs kf
    refine fin2 a (a + 1) s5 m5 M1 ?_
    have zeNone : ∀ {b o}, ¬ cap b → s2.heap.get? b = some o → z b = none → ze b = none := fun {b o} hb e hz => by
      cases q : ze b with
      | none => rfl
      | some o' =>
        rcases g5.2 b o' q with e' | e'
        · rw [hz] at e'; cases e'
        · rw [kzc_of hb e] at e'; cases e'
    have gz : Grow kz z ze := ⟨g5.1, fun b o e => (g5.2 b o e).imp id fun q => by
      cases q' : kz b with
      | none => rfl
      | some o' => rw [kzle q'] at q; cases q⟩
    have at5 : s5.heap.get? a = some (lobj vs5 n5) := S5.keep _ _ (by simp [kput, zput])
    have aC : a ≠ a + 1 := Nat.ne_of_lt (Nat.lt_succ_self a)
    refine ⟨.own none xs, σo ++ σ1.filter (fun p => !capt scope p.1), ze, kput kz a (lobj vs5 n5), by rw [kput_ne aC.symm]; exact (kn (Nat.le_succ a)).1, S5.priv.2, fun q => ?_, g.trans gz, ⟨rfl, a, vs5, n5, rfl, (kn (Nat.le_refl a)).1, z5, r5, rfl⟩, q5, fun h' hs' => ?_⟩
    · obtain ⟨oL, hoL⟩ := hLk
      have := below (kzc_some hoL).2
      rw [← q] at this; exact absurd this (Nat.not_lt.mpr (Nat.le_succ a))
    -- the heap behind
    have h5 : ∀ {b o}, b ≠ a + 1 → s5.heap.get? b = some o → h'.get? b = some o := fun hb e => (hs'.2 _ hb).trans e
    have kept : ∀ {b o}, ¬ cap b → s2.heap.get? b = some o → h'.get? b = some o := fun {b o} hb e => by
      have hl := below e
      exact h5 (Nat.ne_of_lt (Nat.lt_succ_of_lt hl)) (S5.keep _ _ (by rw [kput_ne (Nat.ne_of_lt hl)]; exact kzc_of hb e))
    have outerCell : ∀ {x ca v}, sc.names.lookup x = some .cell → env.cells.lookup x = some ca → s2.heap.IsCell ca v → capt scope x = false → ¬ cap ca := by
      rintro x ca v hx h1 ⟨o, h2, h3⟩ hnc (⟨y, c1, c2⟩ | ⟨y, p, xs, c1, c2, c3⟩ | hf)
      · have := S.cellD x y ca hx (capt_kind C hsc c1).2.1 h1 c2
        subst this; rw [hnc] at c1; cases c1
      · obtain ⟨v', _, _, ⟨vs, n, d2, _⟩, _⟩ := L2 y _ c2
        rw [c3, h2] at d2; cases d2; cases h3
      · obtain ⟨⟨o', c1, _, _, c2⟩, _⟩ := o1 _ hf
        rw [h2] at c1; cases c1; exact c2 _ h3
    have look2 : ∀ {x lv}, (σo ++ σ1.filter (fun p => !capt scope p.1)).lookup x = some lv → (capt scope x = true ∧ σe.lookup x = some lv) ∨ (capt scope x = false ∧ σ1.lookup x = some lv) := by
      intro x lv e
      rw [look_app] at e
      cases q : σo.lookup x with
      | some lv' =>
        rw [q] at e; cases e
        exact .inl ⟨so2 _ (mem_of_lookup q), so1.get q⟩
      | none =>
        rw [q] at e
        have e : (σ1.filter fun p => !capt scope p.1).lookup x = some lv := e
        clear q
        have hx : capt scope x = false := by
          have := List.mem_filter.mp (mem_of_lookup e)
          simpa using this.2
        refine .inr ⟨hx, ?_⟩
        exact filter_lookup e hx
    have ownNot : ∀ {x p ys}, capt scope x = false → σ1.lookup x = some (.own p ys) → ¬ cap (α x) := by
      rintro x p ys hx e (⟨y, c1, c2⟩ | ⟨y, p', zs, c1, c2, c3⟩ | hf)
      · obtain ⟨v', _, _, ⟨vs, n, d2, _⟩, _⟩ := L2 x _ e
        obtain ⟨ca, v, f1, f2, _⟩ := capCell c1
        rw [f1] at c2; cases c2
        exact list_not_cell d2 f2 rfl
      · have := L3 y x p' p zs ys c2 e c3
        subst this; rw [hx] at c1; cases c1
      · obtain ⟨v', _, _, ⟨vs, n, d2, _⟩, _⟩ := L2 x _ e
        obtain ⟨⟨o', c1, c2, _⟩, _⟩ := o1 _ hf
        rw [d2] at c1; cases c1; exact c2 rfl
    have nkz : ∀ {b}, kput (kzc s2.heap cap) a (lobj vs5 n5) b = none → kput kz a (lobj vs5 n5) b = none := fun {b} e => by
      obtain ⟨e1, e2⟩ := kput_none e
      rw [kput_ne e1]
      cases q : kz b with
      | none => rfl
      | some o => rw [kzle q] at e2; cases e2
    obtain ⟨oL, hoL⟩ := hLk
    have hoL2 := (kzc_some hoL).2
    refine ⟨fun b o e => ?_, fun b o e => h5 (fun q => ?_) (S5.froz _ _ e), S.top.trans (zput_le (kn (Nat.le_refl a)).1), S5.topz, S5.gens, S5.os, ⟨?_, zeNone Lnot hoL2 S.priv.2⟩, fun x hx => ?_, S.cellD, m, fun x => if capt scope x then α5 x else α x, ?_, fun x lv e => ?_, fun x y p q xs1 ys1 e1 e2 eq => ?_⟩
    · by_cases hb : b = a
      · subst hb
        rw [show kput kz b (lobj vs5 n5) b = some (lobj vs5 n5) by simp [kput, zput]] at e
        cases e; exact h5 aC at5
      · rw [kput_ne hb] at e
        exact kept (notCap e) (S.keep _ _ e)
    · subst q; rw [S5.priv.2] at e; cases e
    · rw [kput_ne (Nat.ne_of_lt (below hoL2))]; exact S.priv.1
    · obtain ⟨ca, v, c1, c2, c3, c4⟩ := S.cellT x hx
      cases hcx : capt scope x with
      | true =>
        obtain ⟨ca', v', d1, d2, d3, d4⟩ := S5.cellT x (capt_kind C hsc hcx).2.2
        have : cenv.cells.lookup x = env.cells.lookup x := cellsCap hcx
        rw [this, c1] at d1; cases d1
        have hne := cell_not_dict d2 M1
        obtain ⟨o, f1, f2⟩ := d2
        exact ⟨ca, v', c1, ⟨o, h5 hne f1, f2⟩, nkz d3, d4⟩
      | false =>
        have hnc := outerCell hx c1 c2 hcx
        obtain ⟨o, f1, f2⟩ := c2
        exact ⟨ca, v, c1, ⟨o, kept hnc f1, f2⟩, by rw [kput_ne (Nat.ne_of_lt (below f1))]; exact c3, zeNone hnc f1 c4⟩
    · obtain ⟨o, es, ep, d1, d2, d3, d4⟩ := id L1
      exact ⟨o, es, ep, kept Lnot d1, d2, d3, d4⟩
    · rcases look2 e with ⟨hcx, e'⟩ | ⟨hcx, e'⟩
      · obtain ⟨k1, k2, k3⟩ := capt_kind C hsc hcx
        obtain ⟨v, hv, hH'⟩ := M2 x lv e'
        refine ⟨v, ?_, ?_⟩
        · rcases hv with ⟨b1, _⟩ | ⟨ca, _, b2, b3⟩ | ⟨_, _, b1, _⟩
          · rw [k3] at b1; cases b1
          · have hne := cell_not_dict b3 M1
            obtain ⟨o, f1, f2⟩ := b3
            exact .cell ca k2 ((cellsCap hcx).symm.trans b2) ⟨o, h5 hne f1, f2⟩
          · rw [k3] at b1; cases b1
        · cases lv with
          | val d => exact hH'
          | own p ys =>
            obtain ⟨d1, ⟨ws, n2, d2, d3⟩, d4, d5, d6⟩ := hH'
            have ea : (if capt scope x then α5 x else α x) = α5 x := by rw [hcx]; rfl
            refine ⟨by show v = .ref (if capt scope x then α5 x else α x); rw [ea]; exact d1, ⟨ws, n2, by show h'.get? (if capt scope x then α5 x else α x) = _; rw [ea]; exact h5 (list_not_dict d2 M1) d2, d3⟩, ?_, ?_, fun b q => ?_⟩
            · show kput kz a _ (if capt scope x then α5 x else α x) = none; rw [ea]; exact nkz d4
            · show ze (if capt scope x then α5 x else α x) = none; rw [ea]; exact d5
            · show (if capt scope x then α5 x else α x) = b; rw [ea]; exact d6 b q
      · obtain ⟨v, hv, hH'⟩ := L2 x lv e'
        refine ⟨v, ?_, ?_⟩
        · rcases hv with ⟨a, b⟩ | ⟨ca, b1, b2, b3⟩ | ⟨ca, o, b1, b2, b3, b4⟩
          · exact .loc a b
          · have hnc := outerCell b1 b2 b3 hcx
            obtain ⟨o, f1, f2⟩ := b3
            exact .cell ca b1 b2 ⟨o, kept hnc f1, f2⟩
          · exact .free ca o b1 b2 (zput_le (kn (Nat.le_refl a)).1 _ _ b3) b4
        · cases lv with
          | val d => exact Rep.mono g5.1 hH'
          | own p ys =>
            have hn := ownNot hcx e'
            obtain ⟨d1, ⟨ws, n2, d2, d3⟩, d4, d5, d6⟩ := hH'
            have ea : (if capt scope x then α5 x else α x) = α x := by rw [hcx]; rfl
            refine ⟨by show v = .ref (if capt scope x then α5 x else α x); rw [ea]; exact d1, ⟨ws, n2, by show h'.get? (if capt scope x then α5 x else α x) = _; rw [ea]; exact kept hn d2, d3.mono g5.1⟩, ?_, ?_, fun b q => ?_⟩
            · show kput kz a _ (if capt scope x then α5 x else α x) = none; rw [ea, kput_ne (Nat.ne_of_lt (below d2))]; exact d4
            · show ze (if capt scope x then α5 x else α x) = none; rw [ea]; exact zeNone hn d2 d5
            · show (if capt scope x then α5 x else α x) = b; rw [ea]; exact d6 b q
    · have eq : (if capt scope x then α5 x else α x) = (if capt scope y then α5 y else α y) := eq
      have mix : ∀ {x y p q xs1 ys1}, capt scope x = true → σe.lookup x = some (.own p xs1) → capt scope y = false → σ1.lookup y = some (.own q ys1) → α5 x ≠ α y := by
        intro x y p q xs1 ys1 f1 f2 g1 g2 eq
        obtain ⟨_, _, _, _, d4, _⟩ := M2 x _ f2
        obtain ⟨_, _, _, ⟨ws, n2, c2, _⟩, _⟩ := L2 y _ g2
        have := (kput_none d4).2
        rw [eq, kzc_of (ownNot g1 g2) c2] at this; cases this
      rcases look2 e1 with ⟨f1, f2⟩ | ⟨f1, f2⟩ <;> rcases look2 e2 with ⟨g1, g2⟩ | ⟨g1, g2⟩ <;> rw [f1, g1] at eq
      · exact M3 x y p q xs1 ys1 f2 g2 eq
      · exact absurd eq (mix f1 f2 g1 g2)
      · exact absurd eq.symm (mix g1 g2 f1 f2)
      · exact L3 x y p q xs1 ys1 f2 g2 eq
  exact codeAny_compStart_list main ((X cenv eok).self _ _ 0 _ _ iH main)
end
end Smith

end

section
namespace Smith

section
variable {prog : Program} {w : World} {hT : Heap} {os0 : OsState} {sc : Scope} {k : Nat} {σ : St} {env : Env} {kz z : Fz} {s : Shared} {A : Around}

inductive CompIn (prog : Program) (w : World) (hT : Heap) (os0 : OsState) (k : Nat) (sc : Scope) (e target : Expr) (scope : Scope) (Q : LV → St → Prop) (n : Nat) (bT : Nat → St → St) (σ1 : St) : Prop where
  | mk (σc : St) (K : St → List D → Prop) : Sub σc σ1 → (∀ p ∈ σc, capt scope p.1 = true) → CLoop prog w hT os0 k (relS scope sc) e target n bT σc K → (∀ σe xs, K σe xs → CompOut scope σ1 Q σe xs) → CompIn prog w hT os0 k sc e target scope Q n bT σ1
/-- a list comprehension: a new list -/
theorem WL.comp {elt target iter : Expr} {ifs : List Expr} {gens : List Comprehension} {scope : Scope} {pos : Pos} {Q : LV → St → Prop}
    (C : CompScope scope sc)
    (h : WI prog w hT os0 k sc (relS scope sc) target iter σ fun n bT σ1 => CompIn prog w hT os0 k sc (.ListComp elt (⟨target, iter, ifs, 0⟩ :: gens) scope pos) target scope Q n bT σ1)
    (hs : (kindE iter != 4) = true := by rfl) :
    WL prog w hT os0 k sc (.ListComp elt (⟨target, iter, ifs, 0⟩ :: gens) scope pos) σ Q := by
  intro env A s kz z he hr S
  rw [eval_ListComp]
  have hfree : ∀ p ∈ scope.names, p.2 = .free → ∃ ca, env.cells.lookup p.1 = some ca := fun p hp hf => by
    obtain ⟨ca, _, h1, _⟩ := S.cellT p.1 (C.free p hp hf)
    exact ⟨ca, h1⟩
  refine wpAny_comprehension_free (e := .ListComp elt (⟨target, iter, ifs, 0⟩ :: gens) scope pos) (g := ⟨target, iter, ifs, 0⟩) (gs := gens) (use := none) rfl (no_fold hs env) (closure_eq hfree) C.kind C.locals ?_
  refine wpAny_mono (h env A s kz z he hr S) (fun x s1 hx => wpAny_mono hx (fun it s2 hit => ?_) fun _ _ x => x) fun _ _ x => x
  obtain ⟨n, bT, σ1, z1, I, fp, g1, S1, X, i0, o1, σc, K, hsub, hcap, loop, fin⟩ := hit
  exact comp_whole C he hr g1 S1 X i0 o1 hsub hcap loop fin (fun _ _ _ => rfl) fun a C' s5 m hn ⟨lv, σ', z', kz1, _, _, _, c4, c5, c6, c7⟩ => ⟨m, hn, fun h' hs => ⟨lv, σ', z', kz1, c4, c5, c7 h' hs, c6⟩⟩

def KOfL (Q : D → St → Prop) (lv : LV) (σ' : St) : Prop := match lv with | .val d => Q d σ' | .own _ xs => Q (.lst xs) σ'
theorem KOfL.own {Q : D → St → Prop} {p : Option Addr} {xs : List D} (h : Q (.lst xs) σ) : KOfL Q (.own p xs) σ := h
/-- a value that was to be stored may be read at once -/
theorem WE.ofL {e : Expr} {Q : D → St → Prop} (h : WL prog w hT os0 k sc e σ (KOfL Q)) : WE prog w hT os0 k sc e σ Q := by
  intro env A s kz z he hr S
  refine wpAny_mono (h env A s kz z he hr S) (fun v s1 ⟨lv, σ1, z1, kz1, g1, sl, S1, q⟩ => ?_) fun _ _ x => x
  cases lv with
  | val d => obtain ⟨r, rfl⟩ := sl; exact ⟨d, σ1, z1, g1, S1, r, q⟩
  | own p xs =>
    obtain ⟨_, a, vs, n, rfl, hk, hz, r, rfl⟩ := sl
    have hle : Le z1 (zput z1 a (lobj vs n)) := zput_le hz
    have here : s1.heap.get? a = some (lobj vs n) := S1.keep _ _ (by simp [kput, zput])
    refine ⟨.lst xs, σ1, zput z1 a (lobj vs n), g1.trans ⟨hle, fun b o e => ?_⟩, ?_, .lst zput_at (r.mono hle), q⟩
    · unfold zput at e; split at e
      · rename_i q'; rw [q']; exact .inr hk
      · exact .inl e
    · obtain ⟨k1, k2, k3, k4, k5, k6, k7, k8, k9, m, α, h1, h2, h3⟩ := S1
      refine ⟨(zput_le hk).trans k1, fun b o e => ?_, S.top, k4.trans hle, k5, k6, ⟨(kput_none k7.1).2, by rw [zput_ne (kput_none k7.1).1]; exact k7.2⟩, fun x hx => ?_, k9, m, α, h1, fun x lv e => ?_, h3⟩
      · unfold zput at e; split at e
        · rename_i q'; cases e; rw [q']; exact here
        · exact k2 _ _ e
      · obtain ⟨ca, v, a1, a2, a3, a4⟩ := k8 x hx
        exact ⟨ca, v, a1, a2, (kput_none a3).2, by rw [zput_ne (kput_none a3).1]; exact a4⟩
      · obtain ⟨v, b1, b2⟩ := h2 x lv e
        refine ⟨v, ?_, ?_⟩
        · rcases b1 with ⟨a, b⟩ | ⟨ca, a, b, c⟩ | ⟨ca, o, c1, c2, c3, c4⟩
          · exact .loc a b
          · exact .cell ca a b c
          · refine .free ca o c1 c2 ?_ c4
            by_cases hb : ca = a
            · subst hb
              rw [show kput kz ca (lobj vs n) ca = some (lobj vs n) by simp [kput, zput]] at c3
              cases c3; cases c4
            · rw [kput_ne hb] at c3; exact c3
        · cases lv with
          | val d => exact Rep.mono hle b2
          | own p xs =>
            obtain ⟨d1, ⟨ws, n2, d2, d3⟩, d4, d5, d6⟩ := b2
            exact ⟨d1, ⟨ws, n2, d2, d3.mono hle⟩, (kput_none d4).2, by rw [zput_ne (kput_none d4).1]; exact d5, d6⟩

/-! ### loops of one generator -/
variable {elt target iter c : Expr} {scope : Scope} {pos : Pos} {n : Nat} {bT : Nat → St → St}

theorem CLoop.one (J : Nat → St → List D → Prop) (h0 : J 0 σ [])
    (hsz : ∀ i σ' xs, i < n → J i σ' xs → xs.length ≤ sizeLine)
    (turn : ∀ i σ' xs, i < n → J i σ' xs → WE prog w hT os0 k sc elt (bT i σ') fun d => SubK fun σ3 => J (i + 1) σ3 (xs ++ [d])) :
    CLoop prog w hT os0 k sc (.ListComp elt [⟨target, iter, [], 0⟩] scope pos) target n bT σ (J n) := by
  intro env A s kz z a it I fp he hr X hA ht i0 o0 R fin
  refine comp_loop (t := ((eval elt env >>= fun x => call (.builtin "list.append") [.ref a, x] >>= fun _ => pure ()) >>= fun _ => again (.compLoop (.ListComp elt [⟨target, iter, [], 0⟩] scope pos) 0 it (.ref a) env))) (ipos := iter.pos) J (compTurn_list1 ..) rfl rfl (fun _ => rfl) hr X hA ht i0 o0 h0 ?_ fin
  intro i kz' z' s' σ' xs' hi ht' _ hA' j'
  refine wpAny_bind (wpAny_bind (wpAny_mono (emit_elt he hr hA' ht' (hsz i σ' xs' hi j') (turn i σ' xs' hi j') (X := AccJ hT os0 sc env kz' a z' J (i + 1)) fun d σ2 z2 s2 ⟨σ3, hsub, j3⟩ g2 A2 => ?_) (fun x s4 h4 => wpAny_bind (wpAny_mono h4 (fun _ s5 h5 => wpAny_pure (wpAny_pure ⟨rfl, h5⟩)) fun _ _ x => x)) fun _ _ x => x))
  obtain ⟨vs, m, S2, r2, k2, z2'⟩ := A2
  exact ⟨σ3, z2, _, g2, ⟨vs, m, S2.sub hsub, r2, k2, z2'⟩, j3⟩
end
end Smith

end

section
namespace Smith

noncomputable abbrev PR : Program := PySem.Challenge.pw_xm0433_01
noncomputable def stmtAt (i : Nat) : Stmt := (PR.main.body[i]?).getD (.Pass default)
noncomputable def fnName (i : Nat) : Str := match stmtAt i with | .FunctionDef n _ _ _ _ _ _ _ _ _ => n | _ => ""
noncomputable def fnArgs (i : Nat) : Arguments := match stmtAt i with | .FunctionDef _ a _ _ _ _ _ _ _ _ => a | _ => ⟨[], [], none, [], [], none, []⟩
noncomputable def fnBody (i : Nat) : List Stmt := match stmtAt i with | .FunctionDef _ _ b _ _ _ _ _ _ _ => b | _ => []
noncomputable def fnScope (i : Nat) : Scope := match stmtAt i with | .FunctionDef _ _ _ _ _ _ s _ _ _ => s | _ => default

abbrev Fn (hT : Heap) (i : Nat) (f : Addr) : Prop := FnAt hT f (fnName i) (fnArgs i) (fnBody i) (fnScope i)

/-- limbs -/
noncomputable def NL (xs : List Nat) : List D := xs.map fun (n : Nat) => D.int (n : Int)
noncomputable abbrev N (xs : List Nat) : D := .lst (NL xs)

/-- where the defs stand -/
structure Facts (hT : Heap) (fa : Nat → Addr) : Prop where
  nolimit : hT.NoLimit
  fn : ∀ i ∈ [4,5,6,7,8,9,10,11,13,14,15,16,17,18,19,20,22,24,25,29,30,31,32,33,35,36,37,38,39,40,41,43,44,45,46,47,48,49,50,51], Fn hT i (fa i) ∧ TopVal hT (fnName i) (.fn (fa i))
  len : TopVal hT "len" (.bi "len")
  min : TopVal hT "min" (.bi "min")
  abs : TopVal hT "abs" (.bi "abs")
  range : TopVal hT "range" (.ty "range")
  enumerate : TopVal hT "enumerate" (.ty "enumerate")
  zip : TopVal hT "zip" (.ty "zip")
  int : TopVal hT "int" (.ty "int")
  nought : TopVal hT "NOUGHT" (.tup [.bool false, N []])
  unit : TopVal hT "UNIT" (.tup [.bool false, N [1]])

noncomputable def fnIds : List Nat := [4,5,6,7,8,9,10,11,13,14,15,16,17,18,19,20,22,24,25,29,30,31,32,33,35,36,37,38,39,40,41,43,44,45,46,47,48,49,50,51]
theorem Facts.isFn {hT : Heap} {fa : Nat → Addr} (P : Facts hT fa) {i : Nat} (h : i ∈ fnIds) : IsFn hT (fa i) := by
  obtain ⟨o, pm, cd, doc, h1, h2, _⟩ := (P.fn i h).1
  exact ⟨o, _, h1, h2⟩
theorem Sub.nil {σ : St} : Sub [] σ := fun _ h => by cases h
theorem Sub.cons {x : Str} {lv : LV} {σ' σ : St} (h : σ.lookup x = some lv) (g : Sub σ' σ) : Sub ((x, lv) :: σ') σ := fun p hp => by
  rcases List.mem_cons.mp hp with rfl | hp
  · exact h
  · exact g p hp
structure FnTop (hT : Heap) (x : Str) (a : Addr) : Prop where
  top : TopVal hT x (.fn a)
  is : IsFn hT a
theorem Facts.ft {hT : Heap} {fa : Nat → Addr} (P : Facts hT fa) (i : Nat) (h : fnIds.contains i = true) : FnTop hT (fnName i) (fa i) :=
  have m : i ∈ fnIds := by simpa using h
  ⟨(P.fn i m).2, P.isFn m⟩
section
variable {hT : Heap} {fa : Nat → Addr} (P : Facts hT fa)
include P
theorem Facts.t4 : FnTop hT "normal" (fa 4) := P.ft 4 rfl
theorem Facts.t5 : FnTop hT "compare" (fa 5) := P.ft 5 rfl
theorem Facts.t6 : FnTop hT "add" (fa 6) := P.ft 6 rfl
theorem Facts.t7 : FnTop hT "sub" (fa 7) := P.ft 7 rfl
theorem Facts.t8 : FnTop hT "divrem_limb" (fa 8) := P.ft 8 rfl
theorem Facts.t9 : FnTop hT "shift_left" (fa 9) := P.ft 9 rfl
theorem Facts.t10 : FnTop hT "shift_right" (fa 10) := P.ft 10 rfl
theorem Facts.t11 : FnTop hT "bits" (fa 11) := P.ft 11 rfl
theorem Facts.t13 : FnTop hT "signed" (fa 13) := P.ft 13 rfl
theorem Facts.t14 : FnTop hT "s_neg" (fa 14) := P.ft 14 rfl
theorem Facts.t15 : FnTop hT "s_abs" (fa 15) := P.ft 15 rfl
theorem Facts.t16 : FnTop hT "s_sign" (fa 16) := P.ft 16 rfl
theorem Facts.t17 : FnTop hT "s_add" (fa 17) := P.ft 17 rfl
theorem Facts.t18 : FnTop hT "s_sub" (fa 18) := P.ft 18 rfl
theorem Facts.t19 : FnTop hT "s_mul" (fa 19) := P.ft 19 rfl
theorem Facts.t20 : FnTop hT "tdiv" (fa 20) := P.ft 20 rfl
theorem Facts.t22 : FnTop hT "gcd_ext" (fa 22) := P.ft 22 rfl
theorem Facts.t24 : FnTop hT "gcd_plain" (fa 24) := P.ft 24 rfl
theorem Facts.t25 : FnTop hT "gcd_of" (fa 25) := P.ft 25 rfl
theorem Facts.t29 : FnTop hT "exact" (fa 29) := P.ft 29 rfl
theorem Facts.t30 : FnTop hT "pivot_row" (fa 30) := P.ft 30 rfl
theorem Facts.t31 : FnTop hT "cleared" (fa 31) := P.ft 31 rfl
theorem Facts.t32 : FnTop hT "steps_down" (fa 32) := P.ft 32 rfl
theorem Facts.t33 : FnTop hT "det_bareiss" (fa 33) := P.ft 33 rfl
theorem Facts.t35 : FnTop hT "mul_school" (fa 35) := P.ft 35 rfl
theorem Facts.t36 : FnTop hT "divrem_small" (fa 36) := P.ft 36 rfl
theorem Facts.t37 : FnTop hT "guessed_limb" (fa 37) := P.ft 37 rfl
theorem Facts.t38 : FnTop hT "take_away" (fa 38) := P.ft 38 rfl
theorem Facts.t39 : FnTop hT "put_back" (fa 39) := P.ft 39 rfl
theorem Facts.t40 : FnTop hT "divide_rows" (fa 40) := P.ft 40 rfl
theorem Facts.t41 : FnTop hT "divrem_school" (fa 41) := P.ft 41 rfl
theorem Facts.t43 : FnTop hT "_law_smoothed" (fa 43) := P.ft 43 rfl
theorem Facts.t44 : FnTop hT "_law_limbs" (fa 44) := P.ft 44 rfl
theorem Facts.t45 : FnTop hT "_law_signed" (fa 45) := P.ft 45 rfl
theorem Facts.t46 : FnTop hT "_law_worth" (fa 46) := P.ft 46 rfl
theorem Facts.t47 : FnTop hT "_law_common" (fa 47) := P.ft 47 rfl
theorem Facts.t48 : FnTop hT "_law_told" (fa 48) := P.ft 48 rfl
theorem Facts.t49 : FnTop hT "_law_joined" (fa 49) := P.ft 49 rfl
theorem Facts.t50 : FnTop hT "_law_turned" (fa 50) := P.ft 50 rfl
theorem Facts.t51 : FnTop hT "_law_next" (fa 51) := P.ft 51 rfl
end
end Smith

end

section
open PySem.W
namespace Smith
def keepIds : List Nat := [1, 2, 3, 4, 5, 6, 7, 8, 9, 10, 11, 13, 14, 15, 16, 17, 18, 19, 20, 22, 24, 25, 27, 28, 29, 30, 31, 32, 33, 35, 36, 37, 38, 39, 40, 41, 43, 44, 45, 46, 47, 48, 49, 50, 51, 52]
def view : Program := { Challenge.pw_xm0433_01 with main := { Challenge.pw_xm0433_01.main with body := keepIds.filterMap fun i => Challenge.pw_xm0433_01.main.body[i]? } }
def frag : Params → Frag := fun P =>
  [(3, ({ cls := Value.type "dict", data := Data.dict #[
    { hash := PyData.keyHash P (Str.ofString "__name__"), key := Value.str (Str.ofString "__name__") 165, val := Value.str (Str.ofString "law_xm0433_01") 614 }, 
    { hash := PyData.keyHash P (Str.ofString "__doc__"), key := Value.str (Str.ofString "__doc__") 166, val := Value.none }, 
    { hash := PyData.keyHash P (Str.ofString "__package__"), key := Value.str (Str.ofString "__package__") 167, val := Value.none }, 
    { hash := PyData.keyHash P (Str.ofString "__loader__"), key := Value.str (Str.ofString "__loader__") 168, val := Value.builtin "__main__.__loader__#opaque" }, 
    { hash := PyData.keyHash P (Str.ofString "__spec__"), key := Value.str (Str.ofString "__spec__") 169, val := Value.none }, 
    { hash := PyData.keyHash P (Str.ofString "__annotations__"), key := Value.str (Str.ofString "__annotations__") 170, val := Value.ref 6 }, 
    { hash := PyData.keyHash P (Str.ofString "__builtins__"), key := Value.str (Str.ofString "__builtins__") 171, val := Value.ref 4 }, 
    { hash := PyData.keyHash P (Str.ofString "__file__"), key := Value.str (Str.ofString "__file__") 173, val := Value.str (Str.ofString "/claim/cut.py") 172 }, 
    { hash := PyData.keyHash P (Str.ofString "__cached__"), key := Value.str (Str.ofString "__cached__") 174, val := Value.none }, 
    { hash := PyData.keyHash P (Str.ofString "GmpError"), key := Value.str (Str.ofString "GmpError") 208, val := Value.ref 24 }, 
    { hash := PyData.keyHash P (Str.ofString "DivisionByZero"), key := Value.str (Str.ofString "DivisionByZero") 224, val := Value.ref 37 }, 
    { hash := PyData.keyHash P (Str.ofString "OutOfRange"), key := Value.str (Str.ofString "OutOfRange") 240, val := Value.ref 49 }, 
    { hash := PyData.keyHash P (Str.ofString "normal"), key := Value.str (Str.ofString "normal") 248, val := Value.ref 58 }, 
    { hash := PyData.keyHash P (Str.ofString "compare"), key := Value.str (Str.ofString "compare") 257, val := Value.ref 65 }, 
    { hash := PyData.keyHash P (Str.ofString "add"), key := Value.str (Str.ofString "add") 270, val := Value.ref 72 }, 
    { hash := PyData.keyHash P (Str.ofString "sub"), key := Value.str (Str.ofString "sub") 284, val := Value.ref 79 }, 
    { hash := PyData.keyHash P (Str.ofString "divrem_limb"), key := Value.str (Str.ofString "divrem_limb") 296, val := Value.ref 86 }, 
    { hash := PyData.keyHash P (Str.ofString "shift_left"), key := Value.str (Str.ofString "shift_left") 311, val := Value.ref 93 }, 
    { hash := PyData.keyHash P (Str.ofString "shift_right"), key := Value.str (Str.ofString "shift_right") 326, val := Value.ref 100 }, 
    { hash := PyData.keyHash P (Str.ofString "bits"), key := Value.str (Str.ofString "bits") 334, val := Value.ref 107 }, 
    { hash := PyData.keyHash P (Str.ofString "signed"), key := Value.str (Str.ofString "signed") 344, val := Value.ref 114 }, 
    { hash := PyData.keyHash P (Str.ofString "s_neg"), key := Value.str (Str.ofString "s_neg") 351, val := Value.ref 121 }, 
    { hash := PyData.keyHash P (Str.ofString "s_abs"), key := Value.str (Str.ofString "s_abs") 358, val := Value.ref 128 }, 
    { hash := PyData.keyHash P (Str.ofString "s_sign"), key := Value.str (Str.ofString "s_sign") 365, val := Value.ref 135 }, 
    { hash := PyData.keyHash P (Str.ofString "s_add"), key := Value.str (Str.ofString "s_add") 374, val := Value.ref 142 }, 
    { hash := PyData.keyHash P (Str.ofString "s_sub"), key := Value.str (Str.ofString "s_sub") 383, val := Value.ref 149 }, 
    { hash := PyData.keyHash P (Str.ofString "s_mul"), key := Value.str (Str.ofString "s_mul") 393, val := Value.ref 156 }, 
    { hash := PyData.keyHash P (Str.ofString "tdiv"), key := Value.str (Str.ofString "tdiv") 405, val := Value.ref 163 }, 
    { hash := PyData.keyHash P (Str.ofString "gcd_ext"), key := Value.str (Str.ofString "gcd_ext") 425, val := Value.ref 170 }, 
    { hash := PyData.keyHash P (Str.ofString "gcd_plain"), key := Value.str (Str.ofString "gcd_plain") 437, val := Value.ref 177 }, 
    { hash := PyData.keyHash P (Str.ofString "gcd_of"), key := Value.str (Str.ofString "gcd_of") 448, val := Value.ref 184 }, 
    { hash := PyData.keyHash P (Str.ofString "NOUGHT"), key := Value.str (Str.ofString "NOUGHT") 451, val := Value.ref 186 }, 
    { hash := PyData.keyHash P (Str.ofString "UNIT"), key := Value.str (Str.ofString "UNIT") 453, val := Value.ref 188 }, 
    { hash := PyData.keyHash P (Str.ofString "exact"), key := Value.str (Str.ofString "exact") 465, val := Value.ref 195 }, 
    { hash := PyData.keyHash P (Str.ofString "pivot_row"), key := Value.str (Str.ofString "pivot_row") 475, val := Value.ref 202 }, 
    { hash := PyData.keyHash P (Str.ofString "cleared"), key := Value.str (Str.ofString "cleared") 494, val := Value.ref 209 }, 
    { hash := PyData.keyHash P (Str.ofString "steps_down"), key := Value.str (Str.ofString "steps_down") 500, val := Value.ref 214 }, 
    { hash := PyData.keyHash P (Str.ofString "det_bareiss"), key := Value.str (Str.ofString "det_bareiss") 514, val := Value.ref 221 }, 
    { hash := PyData.keyHash P (Str.ofString "mul_school"), key := Value.str (Str.ofString "mul_school") 532, val := Value.ref 228 }, 
    { hash := PyData.keyHash P (Str.ofString "divrem_small"), key := Value.str (Str.ofString "divrem_small") 543, val := Value.ref 235 }, 
    { hash := PyData.keyHash P (Str.ofString "guessed_limb"), key := Value.str (Str.ofString "guessed_limb") 557, val := Value.ref 242 }, 
    { hash := PyData.keyHash P (Str.ofString "take_away"), key := Value.str (Str.ofString "take_away") 573, val := Value.ref 249 }, 
    { hash := PyData.keyHash P (Str.ofString "put_back"), key := Value.str (Str.ofString "put_back") 587, val := Value.ref 256 }, 
    { hash := PyData.keyHash P (Str.ofString "divide_rows"), key := Value.str (Str.ofString "divide_rows") 600, val := Value.ref 263 }, 
    { hash := PyData.keyHash P (Str.ofString "divrem_school"), key := Value.str (Str.ofString "divrem_school") 613, val := Value.ref 270 }, 
    { hash := PyData.keyHash P (Str.ofString "_law_smoothed"), key := Value.str (Str.ofString "_law_smoothed") 623, val := Value.ref 277 }, 
    { hash := PyData.keyHash P (Str.ofString "_law_limbs"), key := Value.str (Str.ofString "_law_limbs") 632, val := Value.ref 284 }, 
    { hash := PyData.keyHash P (Str.ofString "_law_signed"), key := Value.str (Str.ofString "_law_signed") 640, val := Value.ref 291 }, 
    { hash := PyData.keyHash P (Str.ofString "_law_worth"), key := Value.str (Str.ofString "_law_worth") 650, val := Value.ref 298 }, 
    { hash := PyData.keyHash P (Str.ofString "_law_common"), key := Value.str (Str.ofString "_law_common") 659, val := Value.ref 305 }, 
    { hash := PyData.keyHash P (Str.ofString "_law_told"), key := Value.str (Str.ofString "_law_told") 665, val := Value.ref 310 }, 
    { hash := PyData.keyHash P (Str.ofString "_law_joined"), key := Value.str (Str.ofString "_law_joined") 671, val := Value.ref 315 }, 
    { hash := PyData.keyHash P (Str.ofString "_law_turned"), key := Value.str (Str.ofString "_law_turned") 677, val := Value.ref 320 }, 
    { hash := PyData.keyHash P (Str.ofString "_law_next"), key := Value.str (Str.ofString "_law_next") 683, val := Value.ref 325 }, 
    { hash := PyData.keyHash P (Str.ofString "law"), key := Value.str (Str.ofString "law") 689, val := Value.ref 330 }] 55 } : Obj)),
   (185, ({ cls := Value.type "list", data := Data.seq #[] } : Obj)),
   (186, ({ cls := Value.type "tuple", data := Data.seq #[Value.bool false, Value.ref 185] } : Obj)),
   (187, ({ cls := Value.type "list", data := Data.seq #[Value.int 1 452] } : Obj)),
   (188, ({ cls := Value.type "tuple", data := Data.seq #[Value.bool false, Value.ref 187] } : Obj))]
def hk : Hook := kHook frag [3, 185, 186, 187, 188] fun _ => by kernel_rfl
def loose : List Str := [Str.ofString "NOUGHT", Str.ofString "UNIT"]
def recsX : WRecords := RowW.records (OpenRow.toRowW Challenge.rw_xm0433_01.row)
noncomputable def topRunG (stp : (Code → Sem Fin) → Program → World → SharedT → Thread → Option (SharedT × Thread)) (ok : Nat → Option Value → Thread → Bool) (den : Code → Sem Fin) (p : Program) (w : World) (n₀ : Nat) (ann : Option Value) : Nat → SharedT → Thread → Option SharedT
  | 0, _, _ => none
  | n + 1, s, t => match through t with
    | true => some s
    | false => match ok n₀ ann t with
      | false => none
      | true => match stp den p w s t with
        | some (s', t') => topRunG stp ok den p w n₀ ann n s' t'
        | none => none
theorem topRunG_of {tb : String → Option Builtin} {p : Program} {w : World} {n₀ : Nat} {ann : Option Value} : ∀ {n : Nat} {s s' : SharedT} {t : Thread}, topRunG stepT stepOk (denote tb) p w n₀ ann n s t = some s' → topRun tb p w n₀ ann n s.abs t = some s'.abs
  | 0, _, _, _, h => by cases h
  | n + 1, s, s', t, h => by
    unfold topRunG at h
    unfold topRun
    cases he : through t with
    | true => rw [he] at h; cases h; rfl
    | false =>
      rw [he] at h
      cases hk : stepOk n₀ ann t with
      | false => rw [hk] at h; cases h
      | true =>
        rw [hk] at h
        cases hs : stepT (denote tb) p w s t with
        | none => rw [hs] at h; cases h
        | some r => obtain ⟨s₂, t₂⟩ := r; rw [hs] at h; rw [stepT_spec hs]; exact topRunG_of h
noncomputable def treeFrom : List Obj → Nat → BT → BT
  | [], _, t => t
  | o :: l, i, t => treeFrom l (i + 1) (t.ins i o)
noncomputable def bootT (P : Params) : BT := treeFrom (boot_heap P).objs.toList 0 .nil
noncomputable def boot0 (w : World) (os : OsState) : SharedT := ⟨bootT w.params, (boot_heap w.params).objs.size, (boot_heap w.params).life, Array.mk [], boot_drawn, boot_toks, os⟩
theorem boot0_abs (w : World) (os : OsState) : (boot0 w os).abs = ⟨boot_heap w.params, Array.mk [], boot_drawn, boot_toks, os⟩ := by kernel_rfl
noncomputable def ran (w : World) (os : OsState) : Option SharedT := topRunG stepT stepOk (denote treeTable) Challenge.pw_xm0433_01 w (boot_heap w.params).objs.size ((boot_heap w.params).nsMap mainGlobals "__annotations__") 4194 (boot0 w os) (topStub Challenge.pw_xm0433_01)
noncomputable abbrev seenBy (s : SharedT) := openSeen view loose (importedModules Challenge.pw_xm0433_01.main.body) (fun s => xlAt view [] s && recOk recsX s) true s.abs
set_option maxHeartbeats 8000000 in
theorem ranA : ∀ (w : World) (os : OsState), (ran w os).map (fun s => (staticsOk (importedModules Challenge.pw_xm0433_01.main.body) (boot_heap w.params) s.abs.heap && namesBound Challenge.pw_xm0433_01 s.abs.heap && gensDone s.abs && laidKept (boot_heap w.params) s.abs.heap, Hook.obs hk s.abs, (seenBy s).1)) = some (true, Hook.val hk w, expectedOf view) := fun w os => by
  unfold ran seenBy
  rw [Fast.te10156331382660048174, Fast.te6613529449190102663, Fast.te11892475500146522536, Fast.te14364793385576792824, Fast.te4187177175401517315]
  kernel_rfl
set_option maxHeartbeats 8000000 in
theorem ranB : ∀ (w : World) (os : OsState), (ran w os).map (fun s => (seenBy s).2) = some (bltViewBooted, true, true, pinGoodD (drecsOf view), plainGoodE view (looseW view loose), plainGoodD view loose, wideGood view, clsGoodW view loose) := fun w os => by
  unfold ran seenBy
  rw [Fast.te10156331382660048174, Fast.te6613529449190102663, Fast.te11892475500146522536, Fast.te14364793385576792824, Fast.te4187177175401517315]
  kernel_rfl
theorem opn : opening Challenge.pw_xm0433_01 = plainProg Challenge.pw_xm0433_01.main.scope.names := by kernel_rfl
theorem left_of {p q : Program} {loose : List Str} {Xt : Shared → Bool} {α : Type} {Yf : Shared → α} {Ya : World → α} {N : Nat} {H₀ : Params → Heap} {gs₀ : Array GenState} {d₀ : Drawn} {k₀ : Nat}
    (op : ∀ w : World, (fencedOpening treeTable p w N).map (fun s => (s.heap, s.gens, s.drawn, s.toks)) = some (H₀ w.params, gs₀, d₀, k₀))
    (z : ∀ w : World, ((H₀ w.params).isNs mainGlobals && gs₀.size == 0) = true)
    (run : ∀ (w : World) (os : OsState), ∃ s₁, topRun treeTable p w (H₀ w.params).objs.size ((H₀ w.params).nsMap mainGlobals "__annotations__") N ⟨H₀ w.params, gs₀, d₀, k₀, os⟩ (topStub p) = some s₁ ∧
      (staticsOk (importedModules p.main.body) (H₀ w.params) s₁.heap && namesBound p s₁.heap && gensDone s₁ && laidKept (H₀ w.params) s₁.heap) = true ∧
      openSeen q loose (importedModules p.main.body) Xt true s₁ = openGood q loose ∧ Yf s₁ = Ya w) : LeftO p q loose Xt Yf Ya N := fun w => by
  obtain ⟨⟨h, gs, d, k, os⟩, e, e'⟩ := Option.map_eq_some_iff.mp (op w)
  obtain ⟨rfl, rfl, rfl, rfl⟩ : h = H₀ w.params ∧ gs = gs₀ ∧ d = d₀ ∧ k = k₀ := by simpa only [Prod.mk.injEq] using e'
  obtain ⟨s₁, t, l1, l2, l3⟩ := run w os
  have T : topFrom treeTable p w N ⟨H₀ w.params, gs, d, k, os⟩ = some s₁ := by
    unfold topFrom
    dsimp only
    rw [z w, t]
    show (match staticsOk (importedModules p.main.body) (H₀ w.params) s₁.heap && namesBound p s₁.heap && gensDone s₁ && laidKept (H₀ w.params) s₁.heap with | true => _ | false => _) = _
    rw [l1]
  unfold openEnds
  rw [e]
  show (topFrom treeTable p w N _).map _ = _
  rw [T]
  exact congrArg some (Prod.ext l2 l3)
theorem ran_top {w : World} {os : OsState} {s : SharedT} (r : ran w os = some s) : topRun treeTable Challenge.pw_xm0433_01 w (boot_heap w.params).objs.size ((boot_heap w.params).nsMap mainGlobals "__annotations__") 4194 ⟨boot_heap w.params, Array.mk [], boot_drawn, boot_toks, os⟩ (topStub Challenge.pw_xm0433_01) = some s.abs :=
  boot0_abs w os ▸ topRunG_of (show topRunG _ _ _ _ _ _ _ _ _ _ = _ from r)
theorem goodA {q : Program} {l : List Str} : (openGood q l).1 = expectedOf q := rfl
theorem goodB {q : Program} {l : List Str} : (openGood q l).2 = (bltViewBooted, true, true, pinGoodD (drecsOf q), plainGoodE q (looseW q l), plainGoodD q l, wideGood q, clsGoodW q l) := rfl
theorem left : LeftO Challenge.pw_xm0433_01 view loose (fun s => xlAt view [] s && recOk recsX s) (Hook.obs hk) (Hook.val hk) 4194 :=
  left_of (boot_open opn rfl fun _ => rfl) (fun w => by kernel_rfl) fun w os => by
    obtain ⟨s, r, a⟩ := Option.map_eq_some_iff.mp (ranA w os)
    obtain ⟨s', r', b⟩ := Option.map_eq_some_iff.mp (ranB w os)
    obtain rfl : s = s' := Option.some.inj (r.symm.trans r')
    obtain ⟨a1, a2, a3⟩ : _ ∧ _ ∧ _ := by simpa only [Prod.mk.injEq] using a
    exact ⟨s.abs, ran_top r, a1, Prod.ext (a3.trans goodA.symm) (b.trans goodB.symm), a2⟩
set_option maxHeartbeats 8000000 in
theorem said : Challenge.rw_xm0433_01.wellSaid = true := by
  rw [Fast.te9446332074065402090]
  unfold Fast.tw9446332074065402090 Fast.tw17960256430627541270 Fast.tw2436336058641802641 Fast.tw12908688711261696721
  repeat' with_reducible refine look_both ?_ ?_
  all_goals (as_aux_lemma => kernel_rfl)
end Smith
end

section
namespace Smith
section
variable {prog : Program} {w : World} {hT : Heap} {os0 : OsState} {sc : Scope} {k : Nat} {σ : St}

theorem WE.nameOwn {x : Str} {pos} {xs : List D} {Q : D → St → Prop} (hx : look σ x = some (.own Option.none xs)) (h : Q (.lst xs) ((x, .val (.lst xs)) :: σ)) :
    WE prog w hT os0 k sc (.Name x pos) σ Q := by
  obtain ⟨hx, q1, q2⟩ := look_at hx
  exact W.freeze x hx (WE.name (by simp [look, okN, q1, q2, List.lookup_cons]) h)

theorem N_len (xs : List Nat) : (NL xs).length = xs.length := by simp [NL]
theorem op_lenN {xs : List Nat} {K : D → Prop} (hl : xs.length < 2 ^ 62) (h : K (.int xs.length)) : Op prog w hT os0 0 [N xs] (callT (.builtin "len")) K :=
  op_len (ds := NL xs) (by rw [N_len]; exact hl) (by rw [N_len]; exact h)

theorem item_N {xs : List Nat} {j : Int} (h0 : 0 ≤ j) (h1 : j < xs.length) (h2 : xs.length < 2 ^ 62) : ItemOf (N xs) j (.int ((xs.getD j.toNat 0 : Nat) : Int)) := by
  refine ItemOf.lst (by rw [N_len]; (first | exact nq68 h0 | omega)) (by (first | exact nq37 h0 | omega)) (by (first | exact nq69 h1 h2 | omega)) ?_
  have : pidx j (NL xs).length = j.toNat := by unfold pidx; rw [if_neg (by (first | exact nq44 h0 | omega))]
  rw [this, NL, List.getElem?_map, List.getD_eq_getElem?_getD]
  have : j.toNat < xs.length := by (first | exact nq70 h0 h1 | omega)
  simp [this]
theorem item0 {d : D} {ds : List D} : ItemOf (.tup (d :: ds)) 0 d := ItemOf.tup (j := 0) (by decide) rfl
theorem item1 {d e : D} {ds : List D} : ItemOf (.tup (d :: e :: ds)) 1 e := ItemOf.tup (j := 1) (by decide) rfl

theorem pySliceN {xs : List Nat} {lo hi : Option Int} : D.lst (pySlice (NL xs) lo hi) = N (pySlice xs lo hi) := by
  unfold N NL pySlice; simp [lowB, highB, List.map_drop, List.map_take]
inductive KSliceN : D → Option Int → (D → St → Prop) → Option Int → St → Prop where
  | mk {xs : List Nat} {lo hi : Option Int} {Q : D → St → Prop} {σ3 : St} : xs.length ≤ sizeLine → Q (N (pySlice xs lo hi)) σ3 → KSliceN (N xs) lo Q hi σ3
theorem WE.sliceN {v : Expr} {l u : Option Expr} {p pos : Pos} {Q : D → St → Prop}
    (h : WE prog w hT os0 k sc v σ fun d1 σ1 => WP prog w hT os0 k sc l σ1 fun lo σ2 => WP prog w hT os0 k sc u σ2 (KSliceN d1 lo Q)) :
    WE prog w hT os0 k sc (.Subscript v (.Slice l u Option.none p) pos) σ Q :=
  WE.slice (h.mono fun d1 σ1 h1 => h1.mono fun lo σ2 h2 => h2.mono fun hi σ3 h3 => by
    obtain ⟨hl, q⟩ := h3
    exact ⟨by rw [N_len]; exact hl, by rw [pySliceN]; exact q⟩)
theorem sizeLine_is : sizeLine = 2 ^ 24 := by decide
theorem gE {e : Expr} {Q : D → St → Prop} (h : WE prog w hT os0 k sc e σ Q) : WE prog w hT os0 k sc e σ Q := h
theorem gX {e : Stmt} {Q : Fl → St → Prop} (h : WX prog w hT os0 k sc e σ Q) : WX prog w hT os0 k sc e σ Q := h
theorem gOp {ds : List D} {f : List Value → Sem Value} {K : D → Prop} (h : Op prog w hT os0 0 ds f K) : Op prog w hT os0 0 ds f K := h
theorem Imp.use {Q0 Q : Fl → St → Prop} {f : Fl} {σ : St} (h : Imp Q0 Q) (x : Q0 f σ) : Q f σ := h f σ x
theorem Imp.all {Q0 : Fl → St → Prop} {P : (Fl → St → Prop) → Prop} (h : ∀ Q, Imp Q0 Q → P Q) : ∀ Q, Imp Q0 Q → P Q := h
theorem WXs.fold {sts : List Stmt} {Q0 : Fl → St → Prop} (h : ∀ Q, Imp Q0 Q → WXs prog w hT os0 k sc sts σ Q) : WXs prog w hT os0 k sc sts σ Q0 := h _ fun _ _ x => x
theorem KRet.use {Q : Fl → St → Prop} {d : D} {σ : St} (h : Q (.ret d) σ) : KRet Q d σ := h
theorem KThen.ret {rest : List Stmt} {Q : Fl → St → Prop} {d : D} (h : Q (.ret d) σ) : KThen prog w hT os0 sc k rest Q (.ret d) σ := h
theorem KThen.next {rest : List Stmt} {Q : Fl → St → Prop} (h : WXs prog w hT os0 k sc rest σ Q) : KThen prog w hT os0 sc k rest Q .next σ := h
theorem KThen.brk {rest : List Stmt} {Q : Fl → St → Prop} (h : Q .brk σ) : KThen prog w hT os0 sc k rest Q .brk σ := h
theorem vs_nil {vs : List Value} {P : List Value → Prop} (h : vs.length = 0) (k : P []) : P vs := by cases vs with | nil => exact k | cons => cases h
theorem vs_cons {n : Nat} {vs : List Value} {P : List Value → Prop} (h : vs.length = n + 1) (k : ∀ a r, r.length = n → P (a :: r)) : P vs := by cases vs with | nil => cases h | cons a r => exact k a r (Nat.succ.inj h)
theorem len1 {fD : FuncData} {xs : List Str} {vs : List Value} (h : vs.length = 1) (k : ∀ a, bindArgs fD ⟨[a], []⟩ = pure (xs.zip [a])) : bindArgs fD ⟨vs, []⟩ = pure (xs.zip vs) := vs_cons (P := fun r => bindArgs fD ⟨r, []⟩ = pure (xs.zip (r))) h fun a _ h => vs_nil (P := fun r => bindArgs fD ⟨a :: r, []⟩ = pure (xs.zip (a :: r))) h (k a)
theorem len2 {fD : FuncData} {xs : List Str} {vs : List Value} (h : vs.length = 2) (k : ∀ a b, bindArgs fD ⟨[a, b], []⟩ = pure (xs.zip [a, b])) : bindArgs fD ⟨vs, []⟩ = pure (xs.zip vs) := vs_cons (P := fun r => bindArgs fD ⟨r, []⟩ = pure (xs.zip (r))) h fun a _ h => vs_cons (P := fun r => bindArgs fD ⟨a :: r, []⟩ = pure (xs.zip (a :: r))) h fun b _ h => vs_nil (P := fun r => bindArgs fD ⟨a :: b :: r, []⟩ = pure (xs.zip (a :: b :: r))) h (k a b)
theorem len3 {fD : FuncData} {xs : List Str} {vs : List Value} (h : vs.length = 3) (k : ∀ a b c, bindArgs fD ⟨[a, b, c], []⟩ = pure (xs.zip [a, b, c])) : bindArgs fD ⟨vs, []⟩ = pure (xs.zip vs) := vs_cons (P := fun r => bindArgs fD ⟨r, []⟩ = pure (xs.zip (r))) h fun a _ h => vs_cons (P := fun r => bindArgs fD ⟨a :: r, []⟩ = pure (xs.zip (a :: r))) h fun b _ h => vs_cons (P := fun r => bindArgs fD ⟨a :: b :: r, []⟩ = pure (xs.zip (a :: b :: r))) h fun c _ h => vs_nil (P := fun r => bindArgs fD ⟨a :: b :: c :: r, []⟩ = pure (xs.zip (a :: b :: c :: r))) h (k a b c)
theorem len4 {fD : FuncData} {xs : List Str} {vs : List Value} (h : vs.length = 4) (k : ∀ a b c d, bindArgs fD ⟨[a, b, c, d], []⟩ = pure (xs.zip [a, b, c, d])) : bindArgs fD ⟨vs, []⟩ = pure (xs.zip vs) := vs_cons (P := fun r => bindArgs fD ⟨r, []⟩ = pure (xs.zip (r))) h fun a _ h => vs_cons (P := fun r => bindArgs fD ⟨a :: r, []⟩ = pure (xs.zip (a :: r))) h fun b _ h => vs_cons (P := fun r => bindArgs fD ⟨a :: b :: r, []⟩ = pure (xs.zip (a :: b :: r))) h fun c _ h => vs_cons (P := fun r => bindArgs fD ⟨a :: b :: c :: r, []⟩ = pure (xs.zip (a :: b :: c :: r))) h fun d _ h => vs_nil (P := fun r => bindArgs fD ⟨a :: b :: c :: d :: r, []⟩ = pure (xs.zip (a :: b :: c :: d :: r))) h (k a b c d)
theorem len5 {fD : FuncData} {xs : List Str} {vs : List Value} (h : vs.length = 5) (k : ∀ a b c d e, bindArgs fD ⟨[a, b, c, d, e], []⟩ = pure (xs.zip [a, b, c, d, e])) : bindArgs fD ⟨vs, []⟩ = pure (xs.zip vs) := vs_cons (P := fun r => bindArgs fD ⟨r, []⟩ = pure (xs.zip (r))) h fun a _ h => vs_cons (P := fun r => bindArgs fD ⟨a :: r, []⟩ = pure (xs.zip (a :: r))) h fun b _ h => vs_cons (P := fun r => bindArgs fD ⟨a :: b :: r, []⟩ = pure (xs.zip (a :: b :: r))) h fun c _ h => vs_cons (P := fun r => bindArgs fD ⟨a :: b :: c :: r, []⟩ = pure (xs.zip (a :: b :: c :: r))) h fun d _ h => vs_cons (P := fun r => bindArgs fD ⟨a :: b :: c :: d :: r, []⟩ = pure (xs.zip (a :: b :: c :: d :: r))) h fun e _ h => vs_nil (P := fun r => bindArgs fD ⟨a :: b :: c :: d :: e :: r, []⟩ = pure (xs.zip (a :: b :: c :: d :: e :: r))) h (k a b c d e)
theorem len7 {fD : FuncData} {xs : List Str} {vs : List Value} (h : vs.length = 7) (k : ∀ a b c d e f g, bindArgs fD ⟨[a, b, c, d, e, f, g], []⟩ = pure (xs.zip [a, b, c, d, e, f, g])) : bindArgs fD ⟨vs, []⟩ = pure (xs.zip vs) := vs_cons (P := fun r => bindArgs fD ⟨r, []⟩ = pure (xs.zip (r))) h fun a _ h => vs_cons (P := fun r => bindArgs fD ⟨a :: r, []⟩ = pure (xs.zip (a :: r))) h fun b _ h => vs_cons (P := fun r => bindArgs fD ⟨a :: b :: r, []⟩ = pure (xs.zip (a :: b :: r))) h fun c _ h => vs_cons (P := fun r => bindArgs fD ⟨a :: b :: c :: r, []⟩ = pure (xs.zip (a :: b :: c :: r))) h fun d _ h => vs_cons (P := fun r => bindArgs fD ⟨a :: b :: c :: d :: r, []⟩ = pure (xs.zip (a :: b :: c :: d :: r))) h fun e _ h => vs_cons (P := fun r => bindArgs fD ⟨a :: b :: c :: d :: e :: r, []⟩ = pure (xs.zip (a :: b :: c :: d :: e :: r))) h fun f _ h => vs_cons (P := fun r => bindArgs fD ⟨a :: b :: c :: d :: e :: f :: r, []⟩ = pure (xs.zip (a :: b :: c :: d :: e :: f :: r))) h fun g _ h => vs_nil (P := fun r => bindArgs fD ⟨a :: b :: c :: d :: e :: f :: g :: r, []⟩ = pure (xs.zip (a :: b :: c :: d :: e :: f :: g :: r))) h (k a b c d e f g)
theorem NL_get {xs : List Nat} {i : Nat} (h : i < xs.length) : (NL xs)[i]?.getD .none = .int ((xs.getD i 0 : Nat) : Int) := by
  unfold NL; rw [List.getD_eq_getElem?_getD]; simp [h]
theorem NL_snoc {xs : List Nat} {x : Int} {n : Nat} (h : x = (n : Int)) : NL xs ++ [.int x] = NL (xs ++ [n]) := by unfold NL; simp [h]
theorem NL_set {xs : List Nat} {i : Nat} {x : Int} {n : Nat} (h : x = (n : Int)) : (NL xs).set i (.int x) = NL (xs.set i n) := by unfold NL; simp [h, List.map_set]
theorem NL_rep {n : Nat} {x : Nat} : List.replicate n (.int (x : Int)) = NL (List.replicate n x) := by unfold NL; simp
theorem NL_nil : ([] : List D) = NL [] := rfl
theorem TurnF.next {Q : Fl → St → Prop} {J : Nat → St → Prop} {i : Nat} {σ : St} (σ' : St) (h : Sub σ' σ) (g : J (i + 1) σ') : TurnF Q J i .next σ := TurnFN.mk σ' h g
theorem Turn.next {Q : Fl → St → Prop} {I : Nat → St → Prop} {n : Nat} {σ : St} (m : Nat) (σ' : St) (hm : m < n) (h : Sub σ' σ) (g : I m σ') : Turn Q I n .next σ := TurnN.mk m σ' hm h g
theorem TurnF.ret {Q : Fl → St → Prop} {J : Nat → St → Prop} {i : Nat} {d : D} {σ : St} (h : Q (.ret d) σ) : TurnF Q J i (.ret d) σ := h
theorem TurnF.brk {Q : Fl → St → Prop} {J : Nat → St → Prop} {i : Nat} {σ : St} (h : Q .next σ) : TurnF Q J i .brk σ := h
theorem Turn.ret {Q : Fl → St → Prop} {I : Nat → St → Prop} {n : Nat} {d : D} {σ : St} (h : Q (.ret d) σ) : Turn Q I n (.ret d) σ := h
theorem Turn.brk {Q : Fl → St → Prop} {I : Nat → St → Prop} {n : Nat} {σ : St} (h : Q .next σ) : Turn Q I n .brk σ := h
theorem exItem {xs : List Nat} {j : Int} {Q : D → St → Prop} {σ : St} (h0 : 0 ≤ j) (h1 : j < xs.length) (h2 : xs.length < 2 ^ 62) (h : Q (.int ((xs.getD j.toNat 0 : Nat) : Int)) σ) : KItem2 (N xs) Q (.int j) σ := ⟨item_N h0 h1 h2, h⟩
theorem exItemN {xs : List Nat} {j : Nat} {Q : D → St → Prop} {σ : St} (h1 : j < xs.length) (h2 : xs.length < 2 ^ 62) (h : Q (.int ((xs.getD j 0 : Nat) : Int)) σ) : KItem2 (N xs) Q (.int (j : Int)) σ := ⟨item_N (by (first | exact nq3 | omega)) (by (first | exact nq103 h1 | omega)) h2, by simpa using h⟩
theorem exItem0 {d : D} {ds : List D} {Q : D → St → Prop} {σ : St} (h : Q d σ) : KItem2 (.tup (d :: ds)) Q (.int 0) σ := ⟨item0, h⟩
theorem exItem1 {d e : D} {ds : List D} {Q : D → St → Prop} {σ : St} (h : Q e σ) : KItem2 (.tup (d :: e :: ds)) Q (.int 1) σ := ⟨item1, h⟩
theorem Idx.mk {i : Expr} {x : Str} {xs : List D} {K : Int → Prop} (h : ∀ a, WE prog w hT os0 k sc i ((x, .own (some a) xs) :: σ) (KIdx x a xs σ K)) : Idx prog w hT os0 k sc i x xs σ K := h
theorem andRfl {α : Type} {a : α} {Q : Prop} (h : Q) : a = a ∧ Q := ⟨rfl, h⟩
theorem ItemOf.own {x : Str} {a : Addr} {xs : List Nat} {j : Int} {Q : D → St → Prop} (h0 : 0 ≤ j) (h1 : j < xs.length) (h2 : xs.length < 2 ^ 62) (h : Q (.int ((xs.getD j.toNat 0 : Nat) : Int)) σ) :
    KItemOwn x a (NL xs) σ Q (.int j) ((x, .own (some a) (NL xs)) :: σ) := by
  cases item_N h0 h1 h2 with
  | lst a b c e => exact ⟨a, b, c, e, h⟩
theorem WXs.mid {st : Stmt} {rest : List Stmt} {Q : Fl → St → Prop} (Mid : St → Prop) (h : WX prog w hT os0 k sc st σ fun f σ1 => f = .next ∧ ∃ σ', Sub σ' σ1 ∧ Mid σ') (g : ∀ σ', Mid σ' → WXs prog w hT os0 k sc rest σ' Q) :
    WXs prog w hT os0 k sc (st :: rest) σ Q := WXs.cons (h.mono fun f σ1 ⟨e, σ', hs, m⟩ => by subst e; exact W.sub σ' hs (g σ' m))
inductive OpAt (prog : Program) (w : World) (hT : Heap) (os0 : OsState) (k : Nat) (ds : List D) (t : List Value → Sem Value) (K : D → Prop) : Prop where
  | mk (j : Nat) : j ≤ k → Op prog w hT os0 j ds t K → OpAt prog w hT os0 k ds t K
theorem OpAt.eq {j : Nat} {ds : List D} {t : List Value → Sem Value} {K : D → Prop} {d : D} (h : Op prog w hT os0 j ds t (fun e => e = d)) (hj : j ≤ k) (hk : K d) : OpAt prog w hT os0 k ds t K := ⟨j, hj, h.mono fun _ e => e ▸ hk⟩
abbrev KCa (prog : Program) (w : World) (hT : Heap) (os0 : OsState) (k : Nat) (T : List Value → Sem Value) (Q : D → St → Prop) : List D → St → Prop := fun ds σ2 => OpAt prog w hT os0 k ds T (KAt Q σ2)
theorem WE.callAF {x : Str} {e : Expr} {rest : List Expr} {p pos} {a : Addr} {Q : D → St → Prop} (hst : plainL (e :: rest) = true) (hx : WE prog w hT os0 k sc (.Name x p) σ fun d σ1 => d = .fn a ∧ σ1 = σ) (hf : IsFn hT a)
    (h : WA prog w hT os0 k sc pos (e :: rest) σ (KCa prog w hT os0 k (_root_.Smith.callT (Value.ref a)) Q)) :
    WE prog w hT os0 k sc (.Call (.Name x p) (e :: rest) [] pos) σ Q := fun env A s kz z he hr hs =>
  Call_ (hx.step he hr hs fun v d σ1 z1 s1 g1 S1 r1 ⟨e1, e2⟩ => by
    subst e1 e2
    cases r1
    obtain ⟨o, fd, ho, hfd⟩ := hf
    exact callWith_def hfd (h.step he hr S1 fun vs ds σ2 z2 s2 g2 S2 r2 ⟨j, hj, h2⟩ => ⟨S2.froz _ _ (S2.topz _ _ ho), h2.use (hr.le hj) (g1.trans g2) S2 r2 fun _ q => q⟩) (plainL_head hst env))
theorem WE.callAG {x : Str} {a : Addr} {e : Expr} {rest : List Expr} {p pos} {Q : D → St → Prop} (ht : FnTop hT x a) (hx : gk sc x = true) (hst : plainL (e :: rest) = true)
    (h : WA prog w hT os0 k sc pos (e :: rest) σ (KCa prog w hT os0 k (_root_.Smith.callT (Value.ref a)) Q)) :
    WE prog w hT os0 k sc (.Call (.Name x p) (e :: rest) [] pos) σ Q := .callAF hst (WE.glob ht.top hx ⟨rfl, rfl⟩) ht.is h
theorem WE.callAN {fa : Nat → Addr} {x : Str} {i : Nat} {e : Expr} {rest : List Expr} {p pos} {Q : D → St → Prop} (hx : look σ x = some (.val (.fn (fa i)))) (hi : (fnIds.contains i) = true) (hst : plainL (e :: rest) = true) (P : Facts hT fa)
    (h : WA prog w hT os0 k sc pos (e :: rest) σ (KCa prog w hT os0 k (_root_.Smith.callT (Value.ref (fa i))) Q)) :
    WE prog w hT os0 k sc (.Call (.Name x p) (e :: rest) [] pos) σ Q := .callAF hst (WE.name hx ⟨rfl, rfl⟩) (P.isFn (by simpa using hi)) h
theorem WE.globF {x : Str} {a : Addr} {pos} {Q : D → St → Prop} (ht : FnTop hT x a) (hx : gk sc x = true) (h : Q (.fn a) σ) : WE prog w hT os0 k sc (.Name x pos) σ Q := WE.glob ht.top hx h
end

end Smith

end

section
namespace Smith
/-- without noughts at the end -/
noncomputable def norm (xs : List Nat) : List Nat := (xs.reverse.dropWhile (· == 0)).reverse
theorem norm_step0 (xs : List Nat) : norm (xs ++ [0]) = norm xs := by simp [norm]
theorem norm_stop (xs : List Nat) {x : Nat} (h : x ≠ 0) : norm (xs ++ [x]) = xs ++ [x] := by simp [norm, h]
theorem take_snoc {xs : List Nat} {i : Nat} (h : i < xs.length) : xs.take (i + 1) = xs.take i ++ [xs.getD i 0] := by
  rw [List.take_add_one, List.getD_eq_getElem?_getD]; simp [h]
theorem pySlice_to {α : Type} {xs : List α} {e : Nat} (h : e ≤ xs.length) : pySlice xs none (some (e : Int)) = xs.take e := by
  unfold pySlice lowB highB
  have : clipAt xs.length (e : Int) = e := by unfold clipAt; (first | exact nq290 h | omega)
  simp [this]

theorem drop_getD {xs : List Nat} {i : Nat} (h : i < xs.length) : xs.drop i = xs.getD i 0 :: xs.drop (i + 1) := by
  rw [List.drop_eq_getElem_cons h, List.getD_eq_getElem?_getD]; simp [h]

end Smith

end

section
namespace Smith
/-- limbs in plain numbers -/
noncomputable def val (W : Nat) : List Nat → Nat
  | [] => 0
  | x :: xs => x + W * val W xs
def Dig (W : Nat) (xs : List Nat) : Prop := ∀ x ∈ xs, x < W
noncomputable def lim (W n : Nat) : List Nat := if h : n = 0 ∨ W < 2 then [] else n % W :: lim W (n / W)
termination_by n
decreasing_by exact Nat.div_lt_self (by (first | exact nq326 h | omega)) (by (first | exact nq327 h | omega))

theorem lim_zero {W : Nat} : lim W 0 = [] := by rw [lim]; simp
theorem lim_pos {W n : Nat} (hW : 2 ≤ W) (hn : n ≠ 0) : lim W n = n % W :: lim W (n / W) := by rw [lim]; rw [dif_neg (by (first | exact nq328 hW hn | omega))]
theorem lim_dig {W : Nat} (hW : 2 ≤ W) : ∀ n, Dig W (lim W n) := by
  intro n
  induction n using Nat.strongRecOn with
  | ind n ih =>
    by_cases h : n = 0
    · subst h; rw [lim_zero]; intro x hx; cases hx
    · rw [lim_pos hW h]
      intro x hx
      rcases List.mem_cons.mp hx with rfl | hx
      · exact Nat.mod_lt _ (by (first | exact nq1 hW | omega))
      · exact ih _ (Nat.div_lt_self (by (first | exact nq107 h | omega)) (by (first | exact nq24 hW | omega))) x hx
theorem val_lim {W : Nat} (hW : 2 ≤ W) : ∀ n, val W (lim W n) = n := by
  intro n
  induction n using Nat.strongRecOn with
  | ind n ih =>
    by_cases h : n = 0
    · subst h; rw [lim_zero]; rfl
    · rw [lim_pos hW h]
      show n % W + W * val W (lim W (n / W)) = n
      rw [ih _ (Nat.div_lt_self (by (first | exact nq107 h | omega)) (by (first | exact nq24 hW | omega)))]
      exact Nat.mod_add_div n W
theorem lim_nil {W n : Nat} (hW : 2 ≤ W) : lim W n = [] ↔ n = 0 := by
  constructor
  · intro h; have := val_lim hW n; rw [h] at this; exact this.symm
  · rintro rfl; exact lim_zero
theorem val_app {W : Nat} : ∀ xs ys : List Nat, val W (xs ++ ys) = val W xs + W ^ xs.length * val W ys
  | [], ys => by simp [val]
  | x :: xs, ys => by
    show x + W * val W (xs ++ ys) = x + W * val W xs + W ^ (xs.length + 1) * val W ys
    rw [val_app xs ys, Nat.pow_succ, Nat.mul_add, Nat.mul_comm (W ^ xs.length) W, Nat.mul_assoc, Nat.add_assoc]
theorem val_lt {W : Nat} (hW : 2 ≤ W) : ∀ {xs : List Nat}, Dig W xs → val W xs < W ^ xs.length
  | [], _ => by simp [val]
  | x :: xs, h => by
    have h1 := h x (.head _)
    have h2 := val_lt hW (xs := xs) fun y hy => h y (.tail _ hy)
    show x + W * val W xs < W ^ (xs.length + 1)
    rw [Nat.pow_succ, Nat.mul_comm (W ^ xs.length) W]
    have : W * (val W xs + 1) ≤ W * W ^ xs.length := Nat.mul_le_mul_left _ h2
    rw [Nat.mul_add] at this; (first | exact nq329 h1 this | omega)
theorem Dig.app {W : Nat} {xs ys : List Nat} (h : Dig W xs) (g : Dig W ys) : Dig W (xs ++ ys) := fun x hx => (List.mem_append.mp hx).elim (h x) (g x)
theorem Dig.one {W x : Nat} (h : x < W) : Dig W [x] := fun y hy => by rw [List.mem_singleton.mp hy]; exact h
theorem Dig.take {W : Nat} {xs : List Nat} (h : Dig W xs) (i : Nat) : Dig W (xs.take i) := fun x hx => h x (List.mem_of_mem_take hx)
theorem Dig.drop {W : Nat} {xs : List Nat} (h : Dig W xs) (i : Nat) : Dig W (xs.drop i) := fun x hx => h x (List.mem_of_mem_drop hx)
theorem Dig.getD {W : Nat} (hW : 0 < W) {xs : List Nat} (h : Dig W xs) (i : Nat) : xs.getD i 0 < W := by
  rw [List.getD_eq_getElem?_getD]
  cases q : xs[i]? with
  | none => exact hW
  | some x => exact h x (List.mem_of_getElem? q)
theorem Dig.set {W : Nat} {xs : List Nat} (h : Dig W xs) (i : Nat) {x : Nat} (hx : x < W) : Dig W (xs.set i x) := fun y hy => by
  rcases List.mem_or_eq_of_mem_set hy with h' | rfl
  · exact h y h'
  · exact hx
/-- limbs without a nought on top are the number's own -/
theorem lim_of {W : Nat} (hW : 2 ≤ W) : ∀ {xs : List Nat}, Dig W xs → (xs ≠ [] → xs.getLast? ≠ some 0) → xs = lim W (val W xs)
  | [], _, _ => by rw [show val W [] = 0 from rfl, lim_zero]
  | x :: xs, h, g => by
    have hx := h x (.head _)
    have h2 : Dig W xs := fun y hy => h y (.tail _ hy)
    have ih := lim_of hW (xs := xs) h2 (fun ne => by
      have := g (by simp)
      rw [List.getLast?_cons] at this
      intro q
      rw [q] at this; simp at this)
    have hne : x + W * val W xs ≠ 0 := by
      intro q
      have hx0 : x = 0 := by (first | exact nq330 q | omega)
      have hv : val W xs = 0 := by
        rcases Nat.mul_eq_zero.mp (show W * val W xs = 0 by (first | exact nq162 q | omega)) with a | a
        · (first | exact nq163 hW a | omega)
        · exact a
      rw [hv, lim_zero] at ih
      subst ih; subst hx0
      exact g (by simp) rfl
    show x :: xs = lim W (x + W * val W xs)
    rw [lim_pos hW hne, Nat.add_mul_mod_self_left, Nat.mod_eq_of_lt hx, Nat.add_mul_div_left _ _ (by (first | exact nq1 hW | omega)), Nat.div_eq_of_lt hx, Nat.zero_add, ← ih]
theorem lim_last {W : Nat} (hW : 2 ≤ W) : ∀ n, (lim W n).getLast? ≠ some 0 := by
  intro n
  induction n using Nat.strongRecOn with
  | ind n ih =>
    by_cases h : n = 0
    · subst h; rw [lim_zero]; simp
    · rw [lim_pos hW h, List.getLast?_cons]
      have := ih (n / W) (Nat.div_lt_self (by (first | exact nq107 h | omega)) (by (first | exact nq24 hW | omega)))
      cases q : (lim W (n / W)).getLast? with
      | none =>
        have e := List.getLast?_eq_none_iff.mp q
        rw [lim_nil hW] at e
        have : n < W := by
          rcases Nat.lt_or_ge n W with h' | h'
          · exact h'
          · have := Nat.div_pos h' (by (first | exact nq1 hW | omega)); (first | exact nq331 e this | omega)
        simp [Nat.mod_eq_of_lt this, h]
      | some y => rw [q] at this; simpa using this
theorem norm_last (xs : List Nat) : (norm xs).getLast? ≠ some 0 := by
  unfold norm
  rw [List.getLast?_reverse]
  intro h
  have := List.head?_dropWhile_not (fun x => x == 0) xs.reverse
  rw [h] at this; simp at this
theorem norm_val {W : Nat} : ∀ xs : List Nat, val W (norm xs) = val W xs := by
  intro xs
  induction h : xs.length generalizing xs with
  | zero => cases xs with
    | nil => rfl
    | cons => simp at h
  | succ n ih =>
    have ⟨ys, y, e⟩ : ∃ ys y, xs = ys ++ [y] := ⟨xs.dropLast, xs.getLast (by intro q; subst q; simp at h), (List.dropLast_concat_getLast _).symm⟩
    subst e
    by_cases hy : y = 0
    · subst hy
      rw [norm_step0, ih ys (by simpa using h), val_app]; simp [val]
    · rw [norm_stop _ hy]
theorem norm_dig {W : Nat} {xs : List Nat} (h : Dig W xs) : Dig W (norm xs) := fun x hx => h x (by
  unfold norm at hx
  rw [List.mem_reverse] at hx
  exact List.mem_reverse.mp ((List.dropWhile_sublist _).subset hx))
theorem norm_lim {W : Nat} (hW : 2 ≤ W) {xs : List Nat} (h : Dig W xs) : norm xs = lim W (val W xs) := by
  rw [lim_of hW (norm_dig h) fun _ => norm_last xs, norm_val]
theorem lim_len {W n k : Nat} (hW : 2 ≤ W) (h : n < W ^ k) : (lim W n).length ≤ k := by
  induction k generalizing n with
  | zero => have : n = 0 := by simp at h; exact h
            subst this; rw [lim_zero]; simp
  | succ k ih =>
    by_cases h0 : n = 0
    · subst h0; rw [lim_zero]; simp
    · rw [lim_pos hW h0]
      have := ih (n := n / W) (by rw [Nat.div_lt_iff_lt_mul (by (first | exact nq1 hW | omega))]; rwa [Nat.pow_succ] at h)
      simpa using this
theorem lim_lt {W n : Nat} (hW : 2 ≤ W) : n < W ^ (lim W n).length := by
  have := val_lt hW (lim_dig hW n); rwa [val_lim hW] at this
theorem lim_ge {W n : Nat} (hW : 2 ≤ W) (hn : n ≠ 0) : W ^ ((lim W n).length - 1) ≤ n := by
  rcases Nat.lt_or_ge n (W ^ ((lim W n).length - 1)) with h | h
  · have := lim_len hW h
    have ne : lim W n ≠ [] := fun q => hn ((lim_nil hW).mp q)
    have := List.length_pos_iff.mpr ne; (first | exact nq332 ‹_› this | omega)
  · exact h
theorem lim_canon {W : Nat} (hW : 2 ≤ W) {xs : List Nat} (h : Dig W xs) (g : xs ≠ [] → W ^ (xs.length - 1) ≤ val W xs) : xs = lim W (val W xs) := by
  refine lim_of hW h fun ne q => ?_
  have ⟨ys, y, e⟩ : ∃ ys y, xs = ys ++ [y] := ⟨xs.dropLast, xs.getLast ne, (List.dropLast_concat_getLast _).symm⟩
  subst e
  simp at q; subst q
  have h1 := g ne
  rw [val_app] at h1; simp [val] at h1
  have := val_lt hW (xs := ys) fun x hx => h x (by simp [hx])
  (first | exact nq333 h1 this | omega)
theorem val_take {W : Nat} {xs : List Nat} {i : Nat} (h : i < xs.length) : val W (xs.take (i + 1)) = val W (xs.take i) + W ^ i * xs.getD i 0 := by
  rw [take_snoc h, val_app]; simp [val, Nat.min_eq_left (Nat.le_of_lt h)]
theorem val_snoc {W : Nat} {xs : List Nat} {x : Nat} : val W (xs ++ [x]) = val W xs + W ^ xs.length * x := by rw [val_app]; simp [val]
/-- a number with its sign -/
noncomputable abbrev Z (U : Nat) (z : Int) : D := .tup [.bool (decide (z < 0)), N (lim U z.natAbs)]

end Smith

end

section
namespace Smith
section
variable {prog : Program} {w : World} {hT : Heap} {os0 : OsState} {sc : Scope} {k : Nat} {σ : St} {a b : Nat} {K : D → Prop}

theorem op_addN (h : K (.int ((a + b : Nat) : Int))) : Op prog w hT os0 0 [.int (a : Int), .int (b : Int)] (binT .Add) K := op_add (by rw [← Int.natCast_add]; exact h)
theorem op_iaddN (h : K (.int ((a + b : Nat) : Int))) : Op prog w hT os0 0 [.int (a : Int), .int (b : Int)] (inT .Add) K := op_iadd (by rw [← Int.natCast_add]; exact h)
theorem op_shl1 (hb : b ≤ 1000000) (h : K (.int ((2 ^ b : Nat) : Int))) : Op prog w hT os0 0 [.int 1, .int (b : Int)] (binT .LShift) K := op_shl (by (first | exact nq3 | omega)) (by (first | exact nq104 hb | omega)) (by decide) (by simpa using h)
theorem op_shlN (hb : b ≤ 1000000) (ha : a < 2 ^ 64) (h : K (.int ((a * 2 ^ b : Nat) : Int))) : Op prog w hT os0 0 [.int (a : Int), .int (b : Int)] (binT .LShift) K := op_shl (by (first | exact nq3 | omega)) (by (first | exact nq104 hb | omega)) (by simpa using ha) (by simpa using h)
theorem op_shrN (h : K (.int ((a / 2 ^ b : Nat) : Int))) : Op prog w hT os0 0 [.int (a : Int), .int (b : Int)] (binT .RShift) K := op_shr (by (first | exact nq3 | omega)) (by
  rw [Int.fdiv_eq_ediv_of_nonneg _ (by exact Int.pow_nonneg (by decide))]; simpa using h)
theorem op_ishrN (h : K (.int ((a / 2 ^ b : Nat) : Int))) : Op prog w hT os0 0 [.int (a : Int), .int (b : Int)] (inT .RShift) K := op_ishr (by (first | exact nq3 | omega)) (by
  rw [Int.fdiv_eq_ediv_of_nonneg _ (by exact Int.pow_nonneg (by decide))]; simpa using h)
theorem and_mask (c n : Nat) : Builtin.bitAnd (c : Int) (((2 ^ n : Nat) : Int) - 1) = ((c % 2 ^ n : Nat) : Int) := by
  have h1 : (((2 ^ n : Nat) : Int) - 1) = ((2 ^ n - 1 : Nat) : Int) := by have := Nat.two_pow_pos n; (first | exact nq297 this | omega)
  rw [h1, bitAnd_pp (by (first | exact nq3 | omega)) (by (first | exact nq298 | omega)), Int.toNat_natCast, Int.toNat_natCast, Nat.and_two_pow_sub_one_eq_mod]
theorem op_andM {n : Nat} (h : K (.int ((a % 2 ^ n : Nat) : Int))) : Op prog w hT os0 0 [.int (a : Int), .int (((2 ^ n : Nat) : Int) - 1)] (binT .BitAnd) K := op_and (by rw [and_mask]; exact h)
theorem or_low {n x y : Nat} (hy : y < 2 ^ n) : Builtin.bitOr ((x * 2 ^ n : Nat) : Int) (y : Int) = ((x * 2 ^ n + y : Nat) : Int) := by
  rw [bitOr_and, bitAnd_pp (by (first | exact nq299 | omega)) (by (first | exact nq3 | omega)), Int.toNat_natCast, Int.toNat_natCast]
  have h1 := Nat.two_pow_add_eq_or_of_lt hy x
  have h2 := nat_or_add_and (x * 2 ^ n) y
  rw [Nat.mul_comm (2 ^ n) x] at h1
  (first | exact nq300 h1 h2 | omega)
theorem op_orN {n : Nat} (hb : b < 2 ^ n) (h : K (.int ((a * 2 ^ n + b : Nat) : Int))) : Op prog w hT os0 0 [.int ((a * 2 ^ n : Nat) : Int), .int (b : Int)] (binT .BitOr) K := op_or (by rw [or_low hb]; exact h)
theorem op_modN (hb : 0 < b) (h : K (.int ((a % b : Nat) : Int))) : Op prog w hT os0 0 [.int (a : Int), .int (b : Int)] (binT .Mod) K := op_mod (by (first | exact nq20 hb | omega)) (by
  rw [Int.fmod_eq_emod_of_nonneg _ (by (first | exact nq3 | omega))]; exact h)
theorem op_imodN (hb : 0 < b) (h : K (.int ((a % b : Nat) : Int))) : Op prog w hT os0 0 [.int (a : Int), .int (b : Int)] (inT .Mod) K := op_imod (by (first | exact nq20 hb | omega)) (by
  rw [Int.fmod_eq_emod_of_nonneg _ (by (first | exact nq3 | omega))]; exact h)
theorem op_divN (hb : 0 < b) (hs : b < 1073741824) (h : K (.int ((a / b : Nat) : Int))) : Op prog w hT os0 0 [.int (a : Int), .int (b : Int)] (binT .FloorDiv) K := op_floordiv (by (first | exact nq20 hb | omega)) (by (first | exact nq301 hs | omega)) (by
  rw [Int.fdiv_eq_ediv_of_nonneg _ (by (first | exact nq3 | omega))]; exact h)
theorem intBits_small {x : Int} (h : x.natAbs < 2 ^ 64) : Builtin.Int.intBits x ≤ 64 := by
  unfold Builtin.Int.intBits
  split
  · (first | exact nq302 | omega)
  · rename_i h0
    have := (Nat.log2_lt (n := x.natAbs) (k := 64) (by simpa using h0)).mpr h
    (first | exact nq303 this | omega)
theorem op_mulS {x y : Int} (hx : x.natAbs < 2 ^ 64) (h : K (.int (x * y))) : Op prog w hT os0 0 [.int x, .int y] (binT .Mult) K := op_mul (IntMulOk.of_left (intBits_small hx)) h
theorem op_mulN (hx : a < 2 ^ 64) (h : K (.int ((a * b : Nat) : Int))) : Op prog w hT os0 0 [.int (a : Int), .int (b : Int)] (binT .Mult) K := op_mulS (by simpa using hx) (by simpa using h)
end

end Smith

end

section
namespace Smith
section
variable {prog : Program} {w : World} {hT : Heap} {os0 : OsState} {sc : Scope} {k : Nat} {σ : St}
inductive KRep (d : D) (Q : LV → St → Prop) : D → St → Prop where
  | mk {m : Int} {σ2 : St} : 0 ≤ m → m ≤ 2 ^ 24 → Q (.own Option.none (List.replicate m.toNat d)) σ2 → KRep d Q (.int m) σ2
theorem WL.rep {e r : Expr} {p1 p2 : Pos} {Q : LV → St → Prop}
    (hst : (kindE e != 1) = true)
    (h : WE prog w hT os0 k sc e σ fun d σ1 => WE prog w hT os0 k sc r σ1 (KRep d Q)) :
    WL prog w hT os0 k sc (.BinOp (.List [e] p1) .Mult r p2) σ Q :=
  WL.bin (WE.list (WA.cons hst (h.mono fun d σ1 h1 => WA.nil ⟨by rw [sizeLine_is]; simp, h1.mono fun d2 σ2 q => by obtain ⟨h0, h1, q⟩ := q; exact ⟨_, opl_rep (by (first | exact nq37 h0 | omega)) h1, q⟩⟩)))
theorem op_subN {a b : Nat} {K : D → Prop} (hb : b ≤ a) (h : K (.int ((a - b : Nat) : Int))) : Op prog w hT os0 0 [.int (a : Int), .int (b : Int)] (binT .Sub) K := op_sub (by rw [← Int.ofNat_sub hb]; exact h)
theorem or_low' {n x y : Nat} (hy : y < 2 ^ n) : Builtin.bitOr (y : Int) ((x * 2 ^ n : Nat) : Int) = ((x * 2 ^ n + y : Nat) : Int) := by rw [bitOr_comm, or_low hy]
theorem op_orN' {n a b : Nat} {K : D → Prop} (hb : b < 2 ^ n) (h : K (.int ((a * 2 ^ n + b : Nat) : Int))) : Op prog w hT os0 0 [.int (b : Int), .int ((a * 2 ^ n : Nat) : Int)] (binT .BitOr) K := op_or (by rw [or_low' hb]; exact h)
theorem op_iorN {n a b : Nat} {K : D → Prop} (hb : b < 2 ^ n) (h : K (.int ((a * 2 ^ n + b : Nat) : Int))) : Op prog w hT os0 0 [.int (b : Int), .int ((a * 2 ^ n : Nat) : Int)] (inT .BitOr) K := op_ior (by rw [or_low' hb]; exact h)
theorem U_le {U wd : Nat} (hU : U = 2 ^ wd) (h2 : wd ≤ 16) : U ≤ 65536 := by rw [hU]; exact Nat.pow_le_pow_right (by decide) h2
theorem rep_set {m : Nat} {G : List Nat} {x : Nat} : (List.replicate (m + 1) 0 ++ G).set m x = List.replicate m 0 ++ x :: G := by
  rw [List.replicate_succ', List.append_assoc, List.set_append_right _ _ (by simp)]
  simp
theorem val_drop {W : Nat} {xs : List Nat} {i : Nat} (h : i < xs.length) : val W (xs.drop i) = xs.getD i 0 + W * val W (xs.drop (i + 1)) := by rw [drop_getD h]; rfl
end

end Smith

end

section
namespace Smith
section
variable {prog : Program} {w : World} {hT : Heap} {os0 : OsState} {sc : Scope} {k : Nat} {σ : St} {env : Env} {kz z z' : Fz} {s s' : Shared} {A : Around}

theorem Sim.called {x : Str} {a : Addr} {pn : Option Addr} {xs xs' : List D} {us us' : List Value} {n n' : Nat} {m : Str → Option Value} (S : Sim hT os0 sc env σ kz z s) (hx : σ.lookup x = some (.own pn xs)) (hm : s.heap.Ns env.locals m) (hv : Var sc env kz s.heap m x (.ref a))
    (hg : s.heap.get? a = some (lobj us n)) (hka : kz a = none)
    (hk : ∀ b o, b ≠ a → s.heap.get? b = some o → s'.heap.get? b = some o) (hz : Le z z') (hn : ∀ b o, z' b = some o → z b = some o ∨ s.heap.get? b = none) (hf : Le z' s'.heap.get?)
    (hg' : s'.heap.get? a = some (lobj us' n')) (hr : RepL z' us' xs') (hgens : s'.gens = s.gens) (hos : s'.os = s.os) : Sim hT os0 sc env ((x, .own pn xs') :: σ) kz z' s' ∧ Grow kz z z' := by
  have hkk : Le kz s'.heap.get? := fun b o e => hk b o (fun q => by rw [q, hka] at e; cases e) (S.keep _ _ e)
  have new : ∀ b o, s.heap.get? b = some o → z b = none → z' b = none := fun b o e n => by
    cases q : z' b with
    | none => rfl
    | some o' => rcases hn b o' q with r | r
                 · rw [n] at r; cases r
                 · rw [e] at r; cases r
  have hd : ∀ b v, s.heap.IsCell b v → s'.heap.IsCell b v := fun b v hc => by
    have := list_not_cell hg hc
    obtain ⟨o, ho, hd⟩ := hc
    exact ⟨o, hk _ _ (Ne.symm this) ho, hd⟩
  have G : Grow kz z z' := ⟨hz, fun b o e => (hn b o e).imp id fun r => by
    cases q : kz b with
    | none => rfl
    | some o' => rw [S.keep _ _ q] at r; cases r⟩
  refine ⟨?_, G⟩
  have S1 := S.pin hx hm hv
  obtain ⟨k1, k2, k3, k4, k5, k6, k7, k8, k9, m1, α, h1, h2, h3⟩ := S1
  obtain ⟨m0, α0, h10, h20, h30⟩ := S.loc
  refine ⟨hkk, hf, k3, k4.trans hz, hgens.trans k5, hos.trans k6, ⟨k7.1, ?_⟩, fun y hy => ?_, k9, m0, α0, ?_, fun y l e => ?_, fun y y' p' q' xs1 ys1 e e' => ?_⟩
  · obtain ⟨o, _, _, hL, _⟩ := h1
    exact new _ _ hL k7.2
  · obtain ⟨ca, v, c1, c2, c4, c5⟩ := k8 y hy
    obtain ⟨o, h2, h3⟩ := id c2
    exact ⟨ca, v, c1, hd _ _ c2, c4, new _ _ h2 c5⟩
  · obtain ⟨o, es, ep, ho, r⟩ := id h10
    exact ⟨o, es, ep, hk _ _ (Ne.symm (list_not_dict hg h10)) ho, r⟩
  · have vk : ∀ {y v}, Var sc env kz s.heap m0 y v → Var sc env kz s'.heap m0 y v := by
      rintro y v (⟨a, b⟩ | ⟨ca, b1, b2, b3⟩ | ⟨ca, o, a, b, c, d⟩)
      · exact .loc a b
      · exact .cell ca b1 b2 (hd _ _ b3)
      · exact .free ca o a b c d
    obtain ⟨u0, hu0, e0, ⟨ws0, n0, d2, d3⟩, d4, d5, d6⟩ := h20 x _ hx
    have ha : α0 x = a := by
      obtain rfl := ns_fun hm h10
      obtain ⟨u1, hu1, hH1⟩ := h2 x (.own (some a) xs) (by simp)
      have ha1 : α x = a := by obtain ⟨_, _, _, _, q⟩ := hH1; exact q a rfl
      -- the value of x is one
      have va : ∀ {v}, Var sc env kz s.heap m x v → v = .ref a := by
        rintro v (⟨b1, b2⟩ | ⟨ca, b1, b2, o, b3, b4⟩ | ⟨ca, o, b1, b2, b3, b4⟩) <;> rcases hv with ⟨c1, c2⟩ | ⟨cb, c1, c2, o', c3, c4⟩ | ⟨cb, o', c1, c2, c3, c4⟩ <;> (try (rw [b1] at c1; cases c1))
        · rw [b2] at c2; exact Option.some.inj c2
        · rw [b2] at c2; cases c2; rw [b3] at c3; cases c3; rw [b4] at c4; injection c4 with c4; exact Option.some.inj c4
        · rw [b2] at c2; cases c2; rw [b3] at c3; cases c3; rw [b4] at c4; injection c4 with c4; exact Option.some.inj c4
      have := va hu0
      rw [e0] at this; exact Value.ref.inj this
    rcases look_cons e with ⟨rfl, rfl⟩ | ⟨e1, e2⟩
    · exact ⟨_, vk hu0, e0, ⟨us', n', by rw [ha]; exact hg', hr⟩, d4, new _ _ d2 d5, d6⟩
    · obtain ⟨u, b1, b2⟩ := h20 y l e2
      refine ⟨u, vk b1, ?_⟩
      cases l with
      | val d => exact Rep.mono hz b2
      | own p' ys =>
        obtain ⟨d1, ⟨ws, n2, d2', d3'⟩, d4', d5', d6'⟩ := b2
        exact ⟨d1, ⟨ws, n2, hk _ _ (fun q => e1 (h30 y x p' pn ys xs e2 hx (q.trans ha.symm))) d2', d3'.mono hz⟩, d4', new _ _ d2' d5', d6'⟩
  · have red : ∀ {y p' ys}, ((x, LV.own pn xs') :: σ).lookup y = some (.own p' ys) → ∃ p'' ys', σ.lookup y = some (.own p'' ys') := by
      intro y p' ys e
      rcases look_cons e with ⟨rfl, _⟩ | ⟨_, e2⟩
      · exact ⟨_, _, hx⟩
      · exact ⟨_, _, e2⟩
    obtain ⟨_, _, f1⟩ := red e
    obtain ⟨_, _, f2⟩ := red e'
    exact h30 y y' _ _ _ _ f1 f2
end

section
variable {prog : Program} {w : World} {hT : Heap} {os0 : OsState} {sc : Scope} {k : Nat} {σ : St} {env : Env} {kz z z' : Fz} {s s' : Shared} {A : Around}
inductive OpMAns (K : D → List D → Prop) (a : Addr) (s : Shared) (z : Fz) (v : Value) (s' : Shared) : Prop where
  | mk (d : D) (xs' : List D) (z' : Fz) (us' : List Value) (n' : Nat) : (∀ b o, b ≠ a → s.heap.get? b = some o → s'.heap.get? b = some o) → Le z z' → (∀ b o, z' b = some o → z b = some o ∨ s.heap.get? b = none) → Le z' s'.heap.get? →
      s'.heap.get? a = some (lobj us' n') → RepL z' us' xs' → s'.gens = s.gens → s'.os = s.os → Rep z' v d → K d xs' → OpMAns K a s z v s'
inductive KMut (x0 : Str) (a : Addr) (K : D → List D → Prop) (r : D) (σ' : St) : Prop where
  | mk (xs' : List D) : σ'.lookup x0 = some (.own (some a) xs') → K r xs' → KMut x0 a K r σ'
/-- a call that may change its first argument, a list of the caller's own -/
def OpM (prog : Program) (w : World) (hT : Heap) (os0 : OsState) (k : Nat) (f : Value) (xs ds : List D) (K : D → List D → Prop) : Prop :=
  ∀ A s z a us n vs, Room k A → Base hT os0 s z → hT.get? a = none → s.heap.get? a = some (lobj us n) → RepL z us xs → z a = none → RepL z vs ds →
    wpAny (model prog w) A (call f (.ref a :: vs)) (OpMAns K a s z) (fun _ _ => False) s
theorem OpM.mono {f : Value} {xs ds : List D} {K K' : D → List D → Prop} (h : OpM prog w hT os0 k f xs ds K) (hk : ∀ d xs', K d xs' → K' d xs') : OpM prog w hT os0 k f xs ds K' :=
  fun A s z a us n vs h1 h2 h3 h4 h5 h6 h7 => wpAny_mono (h A s z a us n vs h1 h2 h3 h4 h5 h6 h7) (fun v s' ⟨d, xs', z', us', n', a1, a2, a3, a4, a5, a6, a7, a8, a9, q⟩ => ⟨d, xs', z', us', n', a1, a2, a3, a4, a5, a6, a7, a8, a9, hk _ _ q⟩) fun _ _ x => x

theorem fn_opMF {f : Addr} {name : Str} {params : Arguments} {body : List Stmt} {scope : Scope} {ds xs0 : List D} {x0 : Str} {xs : List Str} {K : D → List D → Prop}
    (hf : FnAt hT f name params body scope) (hlim : hT.NoLimit)
    (hbind : ∀ pm cd doc (v : Value) (vs : List Value), vs.length = ds.length → bindArgs (docDef name params body scope pm cd doc) ⟨v :: vs, []⟩ = pure ((x0 :: xs).zip (v :: vs)))
    (body_ok : ∀ a Q, Imp (KEnd (KMut x0 a K)) Q → WXs prog w hT os0 k scope body ((x0, .own (some a) xs0) :: xs.zip (ds.map LV.val)) Q)
    (ho : fnOk scope (x0 :: xs) = true := by rfl) :
    OpM prog w hT os0 (k + 1) (.ref f) xs0 ds K := by
  obtain ⟨hnd, hkind, hco, hgen, hk⟩ := fnOk_at ho
  intro A s z a us n vs hr B hTa hg hrep hza rr
  have hle : Le (fun b => if b = a then none else s.heap.get? b) s.heap.get? := fun b o e => by
    dsimp only at e; split at e
    · cases e
    · exact e
  refine enter_fn (kz := fun b => if b = a then none else s.heap.get? b) (X := KMut x0 a K) hf hlim hr B hle (fun b o e => ?_) ((x0, .own (some a) xs0) :: xs.zip (ds.map LV.val)) ⟨fun x lv h => ?_, fun x y p q c d h1 h2 => ?_⟩ (fun pm cd doc => hbind pm cd doc (.ref a) vs rr.length) hnd hkind (body_ok a _ fun _ _ x => x) ?_ hco hgen hk
  · try dsimp only
    rw [if_neg (by rintro rfl; rw [hTa] at e; cases e)]
    exact B.froz _ _ (B.topz _ _ e)
  · rcases look_cons h with ⟨rfl, rfl⟩ | ⟨_, h⟩
    · exact ⟨.ref a, .head _, a, rfl, ⟨us, n, hg, hrep⟩, if_pos rfl, hza, rfl⟩
    · obtain ⟨v, d, h1, h2⟩ := zip_lookup (xs := xs) rr h
      exact ⟨v, .tail _ h1, h2⟩
  · rcases look_cons h1 with ⟨rfl, _⟩ | ⟨_, h1⟩
    · rcases look_cons h2 with ⟨rfl, _⟩ | ⟨_, h2⟩
      · rfl
      · cases zip_lookup (xs := xs) rr h2
    · cases zip_lookup (xs := xs) rr h1
  · intro r v σ' env' z' s' ⟨xs', hx', hK⟩ _ g S rv
    obtain ⟨a', us', n', m, _, _, hg', hrep', hka', hza', hp', _, _⟩ := S.own hx'
    obtain rfl : a' = a := hp' a rfl
    refine ⟨r, xs', z', us', n', fun b o hb e => S.keep b o (by rw [if_neg hb]; exact e), g.1, fun b o e => ?_, S.froz, hg', hrep', S.gens.trans B.gens.symm, S.os.trans B.os.symm, rv, hK⟩
    rcases g.2 b o e with h | h
    · exact .inl h
    · by_cases hb : b = a'
      · rw [hb, hza'] at e; cases e
      · rw [if_neg hb] at h; exact .inr h

theorem lenM1 {fD : FuncData} {v : Value} {xs : List Str} {vs : List Value} (h : vs.length = 1) (k : ∀ a, bindArgs fD ⟨[v, a], []⟩ = pure (xs.zip [v, a])) : bindArgs fD ⟨v :: vs, []⟩ = pure (xs.zip (v :: vs)) := vs_cons (P := fun r => bindArgs fD ⟨v :: r, []⟩ = pure (xs.zip (v :: r))) h fun a _ h => vs_nil (P := fun r => bindArgs fD ⟨v :: a :: r, []⟩ = pure (xs.zip (v :: a :: r))) h (k a)
theorem lenM2 {fD : FuncData} {v : Value} {xs : List Str} {vs : List Value} (h : vs.length = 2) (k : ∀ a b, bindArgs fD ⟨[v, a, b], []⟩ = pure (xs.zip [v, a, b])) : bindArgs fD ⟨v :: vs, []⟩ = pure (xs.zip (v :: vs)) := vs_cons (P := fun r => bindArgs fD ⟨v :: r, []⟩ = pure (xs.zip (v :: r))) h fun a _ h => vs_cons (P := fun r => bindArgs fD ⟨v :: a :: r, []⟩ = pure (xs.zip (v :: a :: r))) h fun b _ h => vs_nil (P := fun r => bindArgs fD ⟨v :: a :: b :: r, []⟩ = pure (xs.zip (v :: a :: b :: r))) h (k a b)
theorem lenM3 {fD : FuncData} {v : Value} {xs : List Str} {vs : List Value} (h : vs.length = 3) (k : ∀ a b c, bindArgs fD ⟨[v, a, b, c], []⟩ = pure (xs.zip [v, a, b, c])) : bindArgs fD ⟨v :: vs, []⟩ = pure (xs.zip (v :: vs)) := vs_cons (P := fun r => bindArgs fD ⟨v :: r, []⟩ = pure (xs.zip (v :: r))) h fun a _ h => vs_cons (P := fun r => bindArgs fD ⟨v :: a :: r, []⟩ = pure (xs.zip (v :: a :: r))) h fun b _ h => vs_cons (P := fun r => bindArgs fD ⟨v :: a :: b :: r, []⟩ = pure (xs.zip (v :: a :: b :: r))) h fun c _ h => vs_nil (P := fun r => bindArgs fD ⟨v :: a :: b :: c :: r, []⟩ = pure (xs.zip (v :: a :: b :: c :: r))) h (k a b c)
theorem lenM4 {fD : FuncData} {v : Value} {xs : List Str} {vs : List Value} (h : vs.length = 4) (k : ∀ a b c d, bindArgs fD ⟨[v, a, b, c, d], []⟩ = pure (xs.zip [v, a, b, c, d])) : bindArgs fD ⟨v :: vs, []⟩ = pure (xs.zip (v :: vs)) := vs_cons (P := fun r => bindArgs fD ⟨v :: r, []⟩ = pure (xs.zip (v :: r))) h fun a _ h => vs_cons (P := fun r => bindArgs fD ⟨v :: a :: r, []⟩ = pure (xs.zip (v :: a :: r))) h fun b _ h => vs_cons (P := fun r => bindArgs fD ⟨v :: a :: b :: r, []⟩ = pure (xs.zip (v :: a :: b :: r))) h fun c _ h => vs_cons (P := fun r => bindArgs fD ⟨v :: a :: b :: c :: r, []⟩ = pure (xs.zip (v :: a :: b :: c :: r))) h fun d _ h => vs_nil (P := fun r => bindArgs fD ⟨v :: a :: b :: c :: d :: r, []⟩ = pure (xs.zip (v :: a :: b :: c :: d :: r))) h (k a b c d)
inductive OpMAt (prog : Program) (w : World) (hT : Heap) (os0 : OsState) (k : Nat) (f : Value) (xs ds : List D) (K : D → List D → Prop) : Prop where
  | mk (j : Nat) : j ≤ k → OpM prog w hT os0 j f xs ds K → OpMAt prog w hT os0 k f xs ds K
theorem WE.callM {fa : Addr} {f x : Str} {rest : List Expr} {p p' pos : Pos} {pn : Option Addr} {xs : List D} {Q : D → St → Prop} (hx : look σ x = some (.own pn xs)) (ht : FnTop hT f fa) (hfl : gk sc f = true)
    (h : ∀ b, WA prog w hT os0 k sc pos rest ((x, .own (some b) xs) :: σ) fun ds σ2 => σ2 = (x, .own (some b) xs) :: σ ∧ OpMAt prog w hT os0 k (.ref fa) xs ds fun d xs' => Q d ((x, .own pn xs') :: σ)) :
    WE prog w hT os0 k sc (.Call (.Name f p) (.Name x p' :: rest) [] pos) σ Q := by
  intro env A s kz z he hr hs
  obtain ⟨hx, hd, hn⟩ := look_at hx
  have hst : ∀ env, starEach (.Name x p' :: rest) env = (false, eval (.Name x p') env) :: starEach rest env := fun _ => Eq.refl _
  refine Call_ ((WE.glob (Q := fun d σ1 => d = .fn fa ∧ σ1 = σ) ht.top hfl ⟨Eq.refl _, Eq.refl _⟩).step he hr hs fun v d σ1 z1 s1 g1 S1 r1 ⟨e1, e2⟩ => ?_)
  subst e1 e2
  cases r1
  obtain ⟨o, fd, ho, hfd⟩ := ht.is
  obtain ⟨b, vs, n, m, hm, hv, hg, hrep, hk, hz, hp, _, _⟩ := S1.own hx
  refine callWith_def hfd (args_cons (wpAny_Name (load_var he S1.keep hm hv ?_ hn) hd) (hst env)) (hst env)
  refine (h b).step he hr (S1.pin hx hm hv) fun us ds σ2 z2 s2 g2 S2 r2 ⟨e2, j, hj, o1⟩ => ?_
  subst e2
  refine ⟨S2.froz _ _ (S2.topz _ _ ho), ?_⟩
  have hx2 : ((x, LV.own (some b) xs) :: σ1).lookup x = some (.own (some b) xs) := by simp
  obtain ⟨b', vs', n', m', hm', hv', hg', hrep', hk', hz', hp', _, _⟩ := S2.own hx2
  obtain rfl : b' = b := hp' b rfl
  have hTb : hT.get? b' = Option.none := by
    cases q : hT.get? b' with
    | none => exact Eq.refl _
    | some o => rw [S2.top _ _ q] at hk'; cases hk'
  refine wpAny_mono (o1 A s2 z2 b' vs' n' us (hr.le hj) S2.base hTb hg' hrep' hz' r2) (fun v s3 ⟨d, xs', z3, us3, n3, a1, a2, a3, a4, a5, a6, a7, a8, a9, q⟩ => ?_) fun _ _ x => x
  obtain ⟨S3, g3⟩ := S2.called hx2 hm' hv' hg' hk' a1 a2 a3 a4 a5 a6 a7 a8
  refine ⟨d, _, z3, (g1.trans g2).trans g3, Sim.sub' (S3.unpin hp) fun y l e => ?_, a9, q⟩
  rcases look_cons e with ⟨rfl, rfl⟩ | ⟨e1, e2⟩
  · simp
  · rw [List.lookup_cons, show (y == x) = false by simpa using e1]
    show ((x, LV.own (some b') xs) :: σ1).lookup y = _
    rw [List.lookup_cons, show (y == x) = false by simpa using e1]; exact e2
theorem WX.exprE {e : Expr} {pos : Pos} {Q : Fl → St → Prop} (hs : (kindE e != 3) = true)
    (h : WE prog w hT os0 k sc e σ fun d σ' => d = .none ∧ Q .next σ') : WX prog w hT os0 k sc (.Expr e pos) σ Q := by
  intro env A s kz z he hr S
  have hint : interactive env = false := by unfold interactive; rw [he.scope, he.kind]; exact Eq.refl _
  refine wpAny_Expr (h.step he hr S fun v d σ1 z1 s1 g1 S1 r1 ⟨e, q⟩ => ?_) hint (no_swap hs _ _ env)
  subst e
  cases r1
  exact ⟨.next, σ1, z1, g1, S1, .next, q⟩
end

end Smith

end

section
namespace Smith
section
variable {prog : Program} {w : World} {hT : Heap} {os0 : OsState} {sc : Scope} {k : Nat} {σ : St}
theorem WE.bitLength {e : Expr} {p2 p3 : Pos} {Q : D → St → Prop} {pl : Env → Sem Bool} (hc : ∀ env, eval (.Call (.Attribute e (Str.ofString "bit_length") p2) [] [] p3) env = (do
      let ov ← eval e env
      standAt p2.atName
      let (f, first) ← holding [ov] (getMethod ov (Str.ofString "bit_length") (pl env))
      callWith p3 f first (backTo p3 (starEach [] env)) []))
    (h : WE prog w hT os0 k sc e σ (KInt fun i σ1 => Q (.int ((Builtin.Int.intBits i : Nat) : Int)) σ1)) :
    WE prog w hT os0 k sc (.Call (.Attribute e (Str.ofString "bit_length") p2) [] [] p3) σ Q := fun env A s kz z he hr S =>
  MethodCall_ (pl := pl env) (h.step he hr S fun v d σ1 z1 s1 g1 S1 r1 q => by
    obtain ⟨q⟩ := q
    obtain ⟨t, rfl⟩ := rep_int r1
    refine getMethod_int_bit_length (callWith_method0 (call_int_bit_length ?_))
    exact ⟨_, σ1, z1, g1, S1.more (t := s1.toks + 1) Le.rfl, .int _ _, q⟩) (hc env)
theorem exItemM {xs : List Nat} {Q : D → St → Prop} {σ : St} (h1 : 0 < xs.length) (h2 : xs.length < 2 ^ 62) (h : Q (.int ((xs.getD (xs.length - 1) 0 : Nat) : Int)) σ) : KItem2 (N xs) Q (.int (-1)) σ := by
  refine ⟨ItemOf.lst (by rw [N_len]; (first | exact nq148 h1 | omega)) (by (first | exact nq149 | omega)) (by (first | exact nq150 | omega)) ?_, h⟩
  have : pidx (-1) (NL xs).length = xs.length - 1 := by unfold pidx; rw [N_len, if_pos (by (first | exact nq151 | omega))]; (first | exact nq152 | omega)
  rw [this, NL, List.getElem?_map, List.getD_eq_getElem?_getD]
  have : xs.length - 1 < xs.length := by (first | exact nq105 h1 | omega)
  simp [this]
inductive KAddRep : D → D → (LV → St → Prop) → D → St → Prop where
  | mk {xs : List D} {d : D} {m : Int} {Q : LV → St → Prop} {σ3 : St} : 0 ≤ m → xs.length + m.toNat ≤ 2 ^ 24 → Q (.own Option.none (xs ++ List.replicate m.toNat d)) σ3 → KAddRep (.lst xs) d Q (.int m) σ3
theorem WL.addRep {l e r : Expr} {p1 p2 p3 : Pos} {Q : LV → St → Prop}
    (hst : (kindE e != 1) = true)
    (h : WE prog w hT os0 k sc l σ fun d1 σ1 => WE prog w hT os0 k sc e σ1 fun d σ2 => WE prog w hT os0 k sc r σ2 (KAddRep d1 d Q)) :
    WL prog w hT os0 k sc (.BinOp l .Add (.BinOp (.List [e] p1) .Mult r p2) p3) σ Q :=
  WL.bin (h.mono fun d1 σ1 h1 => WE.binop (WE.list (WA.cons hst (h1.mono fun d σ2 h2 => WA.nil ⟨by rw [sizeLine_is]; simp, h2.mono fun d2 σ3 q => by
    obtain ⟨h0, h3, q⟩ := q
    exact (opl_rep (d := d) (by (first | exact nq37 h0 | omega)) (by (first | exact nq305 h3 | omega))).op ⟨_, opl_add (by rw [sizeLine_is]; simpa using h3), q⟩⟩))))
end

end Smith

end

section
namespace Smith

section
variable {prog : Program} {w : World} {hT : Heap} {os0 : OsState} {sc : Scope} {k : Nat} {σ : St} {env : Env} {kz z : Fz} {s : Shared} {A : Around}
variable {elt t1 i1 t2 i2 c : Expr} {ifs2 : List Expr} {scope : Scope} {pos : Pos} {n : Nat} {bT : Nat → St → St}

/-- the start of the second generator's loop -/
theorem start_two {it acc : Value} {R : Result → Shared → Prop}
    (h0 : codeAny (model prog w) A (.compLoop (.ListComp elt [⟨t1, i1, [], 0⟩, ⟨t2, i2, ifs2, 0⟩] scope pos) 1 it acc env) R s)
    (h : wpAny (model prog w) A (pyIter it) (fun it' s' => codeAny (model prog w) A (.compLoop (.ListComp elt [⟨t1, i1, [], 0⟩, ⟨t2, i2, ifs2, 0⟩] scope pos) 1 it' acc env) R s')
      (notedBy (model prog w) A env fun x s' => R (.error x) s') s) :
    codeAny (model prog w) A (.compStart (.ListComp elt [⟨t1, i1, [], 0⟩, ⟨t2, i2, ifs2, 0⟩] scope pos) 1 it acc env) R s := by
  refine codeAny_of_tree ?_
  show wpAny _ _ ((compStart (.ListComp elt [⟨t1, i1, [], 0⟩, ⟨t2, i2, ifs2, 0⟩] scope pos) 1 it acc env).onRaise (fun x => do noteFrame x env; standAt theWindowsPlace)) _ _ s
  refine wpAny_notedAt ?_
  unfold compStart
  show wpAny _ _ (ask >>= _) _ _ s
  refine wpAny_bind (wpAny_askSetting (wpAny_ite ?_))
  split
  · first
      | exact wpAny_bind (wpAny_pure (wpAny_pure (And.intro rfl h0)))
      | exact wpAny_pure (And.intro rfl h0)
  · refine wpAny_bind (wpAny_rule ?_)
    show wpAny _ _ (standAt i2.pos >>= _) _ _ s
    exact wpAny_bind (wpAny_standAt (wpAny_bind (wpAny_mono h (fun it' s' h' => wpAny_pure (And.intro rfl h')) fun _ _ x => x)))

/-- a turn of the second generator: what it must come to -/
def Emits (prog : Program) (w : World) (hT : Heap) (os0 : OsState) (k : Nat) (sc : Scope) (elt : Expr) (ifs : List Expr) (σ : St) (xs : List D) (K : St → List D → Prop) : Prop :=
  match ifs with
  | [] => xs.length ≤ sizeLine ∧ WE prog w hT os0 k sc elt σ fun d => SubK fun σ3 => K σ3 (xs ++ [d])
  | [c] => xs.length ≤ sizeLine ∧ WB prog w hT os0 k sc c σ fun b σ1 => (b = true → WE prog w hT os0 k sc elt σ1 fun d => SubK fun σ3 => K σ3 (xs ++ [d])) ∧ (b = false → SubK (fun σ3 => K σ3 xs) σ1)
  | _ => False

theorem emits_run {a : Addr} {xs : List D} {K : St → List D → Prop} {e : Expr} {depth : Nat} {it : Value} (he : EnvOk sc env) (hr : Room k A) (h : AccSt hT os0 sc env kz a σ z s xs) (ht : Le hT.get? kz)
    (hE : Emits prog w hT os0 k sc elt ifs2 σ xs K) :
    wpAny (model prog w) A (do
        let mut ok := true
        for c in ifs2 do
          if ok then ok ← isTrue c env (eval c env)
        if ok then
          (do let _ ← call (.builtin "list.append") [.ref a, ← eval elt env])
        again (.compLoop e depth it (.ref a) env)) (fun fin s'' => fin = .again (.compLoop e depth it (.ref a) env) ∧ AccJ hT os0 sc env kz a z (fun _ => K) 0 s'') (fun _ _ => False) s := by
  match ifs2, hE with
  | [], ⟨hsz, hE⟩ =>
    refine wpAny_bind (wpAny_tests_nil ?_)
    simp only [if_true]
    refine wpAny_bind (wpAny_bind (wpAny_mono (emit_elt he hr h ht hsz hE (X := AccJ hT os0 sc env kz a z (fun _ => K) 0) fun d σ2 z2 s2 ⟨σ3, hsub, j3⟩ g2 A2 => ?_) (fun x s4 h4 => wpAny_bind (wpAny_mono h4 (fun _ s5 h5 => wpAny_pure (wpAny_pure ⟨rfl, h5⟩)) fun _ _ x => x)) fun _ _ x => x))
    obtain ⟨vs, m, S2, r2, k2, z2'⟩ := A2
    exact ⟨σ3, z2, _, g2, ⟨vs, m, S2.sub hsub, r2, k2, z2'⟩, j3⟩
  | [c], ⟨hsz, hE⟩ =>
    refine wpAny_bind (wpAny_tests_one ?_)
    obtain ⟨vs, m, S, r, hk, hz⟩ := h
    refine hE.step he hr S fun b b' σ1 z1 s1 g1 S1 r1 ⟨q1, q2⟩ => ?_
    subst r1
    obtain ⟨g1', z1a⟩ := g1.unput hz
    have A1 : AccSt hT os0 sc env kz a σ1 z1 s1 xs := ⟨vs, m, S1, r.mono g1.1, hk, z1a⟩
    cases b with
    | false =>
      simp only [Bool.false_eq_true, if_false]
      obtain ⟨σ3, hsub, j3⟩ := q2 rfl
      exact wpAny_pure ⟨rfl, σ3, z1, xs, g1', ⟨vs, m, S1.sub hsub, r.mono g1.1, hk, z1a⟩, j3⟩
    | true =>
      simp only [if_true]
      refine wpAny_bind (wpAny_bind (wpAny_mono (emit_elt he hr A1 ht hsz (q1 rfl) (X := AccJ hT os0 sc env kz a z (fun _ => K) 0) fun d σ2 z2 s2 ⟨σ3, hsub, j3⟩ g2 A2 => ?_) (fun x s4 h4 => wpAny_bind (wpAny_mono h4 (fun _ s5 h5 => wpAny_pure (wpAny_pure ⟨rfl, h5⟩)) fun _ _ x => x)) fun _ _ x => x))
      obtain ⟨vs, m, S2, r2, k2, z2'⟩ := A2
      exact ⟨σ3, z2, _, g1'.trans g2, ⟨vs, m, S2.sub hsub, r2, k2, z2'⟩, j3⟩

inductive InnerC (prog : Program) (w : World) (hT : Heap) (os0 : OsState) (k : Nat) (sc : Scope) (elt : Expr) (ifs2 : List Expr) (xs : List D) (K : St → List D → Prop) (m : Nat) (bT2 : Nat → St → St) (σ1 : St) : Prop where
  | mk (J2 : Nat → St → List D → Prop) : J2 0 σ1 xs → (∀ j σ2 ys, j < m → J2 j σ2 ys → Emits prog w hT os0 k sc elt ifs2 (bT2 j σ2) ys (J2 (j + 1))) → (∀ σ2 ys, J2 m σ2 ys → SubK (fun σ3 => K σ3 ys) σ2) → InnerC prog w hT os0 k sc elt ifs2 xs K m bT2 σ1
theorem CLoop.two (J : Nat → St → List D → Prop) (h0 : J 0 σ [])
    (turn : ∀ i σ' xs, i < n → J i σ' xs → WI prog w hT os0 k sc sc t2 i2 (bT i σ') (InnerC prog w hT os0 k sc elt ifs2 xs (J (i + 1))))
    (hs : (kindE i2 != 4) = true := by rfl) :
    CLoop prog w hT os0 k sc (.ListComp elt [⟨t1, i1, [], 0⟩, ⟨t2, i2, ifs2, 0⟩] scope pos) t1 n bT σ (J n) := by
  intro env A s kz z a it I fp he hr X hA ht i0 o0 R fin
  refine comp_loop (t := (eval i2 env >>= fun x => standAt i2.pos >>= fun _ => foldedSetIterable i2 env x >>= fun x => holding [x] (pyIter x) >>= fun it2 => runOwn (.compStart (.ListComp elt [⟨t1, i1, [], 0⟩, ⟨t2, i2, ifs2, 0⟩] scope pos) 1 it2 (.ref a) env) env >>= fun _ => again (.compLoop (.ListComp elt [⟨t1, i1, [], 0⟩, ⟨t2, i2, ifs2, 0⟩] scope pos) 0 it (.ref a) env))) (ipos := i1.pos) J (by rfl) rfl rfl (fun _ => rfl) hr X hA ht i0 o0 h0 ?_ fin
  intro i kz' z' s' σ' xs' hi ht' _ hA' j'
  obtain ⟨vs, m, S, r, hk, hz⟩ := hA'
  refine wpAny_bind (wpAny_mono (turn i σ' xs' hi j' env A s' _ z' he hr S) (fun x s1 hx => wpAny_bind (wpAny_standAt (wpAny_bind (wpAny_of_eq (no_fold hs env x) (wpAny_bind (wpAny_holding (wpAny_mono hx (fun it2 s2 hit => ?_) fun _ _ x => x))))))) fun _ _ x => x)
  obtain ⟨m2, bT2, σ1, z1, I2, fp2, g1, S1, X2, i02, o2, J2, j20, turn2, fin2⟩ := hit
  obtain ⟨g1', z1a⟩ := g1.unput hz
  have A1 : AccSt hT os0 sc env kz' a σ1 z1 s2 xs' := ⟨vs, m, S1, r.mono g1.1, hk, z1a⟩
  have o2' : Off kz' z1 s2.heap fp2 := fun b hb => ⟨(o2 b hb).obj, (kput_none (o2 b hb).kn).2, (o2 b hb).zn⟩
  have X2' := X2 env he
  refine wpAny_bind (wpAny_runOwn ?_)
  have main : codeAny (model prog w) A (.compLoop (.ListComp elt [⟨t1, i1, [], 0⟩, ⟨t2, i2, ifs2, 0⟩] scope pos) 1 it2 (.ref a) env) (fun r s' => match r with
      | .ok f => wpAny (model prog w) A (again (.compLoop (.ListComp elt [⟨t1, i1, [], 0⟩, ⟨t2, i2, ifs2, 0⟩] scope pos) 0 it (.ref a) env)) (fun fin s'' => fin = .again (.compLoop (.ListComp elt [⟨t1, i1, [], 0⟩, ⟨t2, i2, ifs2, 0⟩] scope pos) 0 it (.ref a) env) ∧ AccJ hT os0 sc env kz' a z' J (i + 1) s'') (fun _ _ => False) s'
      | .error e => cameBackBy (model prog w) A env (fun _ _ => False) e s') s2 := by
    refine comp_loop (t := (do
        let mut ok := true
        for c in ifs2 do
          if ok then ok ← isTrue c env (eval c env)
        if ok then
          (do let _ ← call (.builtin "list.append") [.ref a, ← eval elt env])
        again (.compLoop (.ListComp elt [⟨t1, i1, [], 0⟩, ⟨t2, i2, ifs2, 0⟩] scope pos) 1 it2 (.ref a) env))) (ipos := i2.pos) J2 (by rfl) rfl rfl (fun _ => rfl) hr X2' A1 ht' i02 o2' j20 ?_ ?_
    · intro j kz3 z3 s3 σ3 ys hj ht3 _ hA3 j3
      exact wpAny_mono (emits_run he hr hA3 ht3 (turn2 j σ3 ys hj j3)) (fun _ _ ⟨e, ⟨a, b, c, d, f, g⟩⟩ => ⟨e, ⟨a, b, c, d, f, g⟩⟩) fun _ _ x => x
    · intro σ3 z3 s3 ys g3 hA3 j3
      obtain ⟨σ4, hsub, j4⟩ := fin2 σ3 ys j3
      obtain ⟨vs3, m3, S3, r3, k3, z3'⟩ := hA3
      exact wpAny_pure ⟨rfl, σ4, z3, ys, g1'.trans g3, ⟨vs3, m3, S3.sub hsub, r3, k3, z3'⟩, j4⟩
  exact start_two main (X2'.self _ _ 0 _ _ i02 main)

end
end Smith

end

section
namespace Smith

/-! ## plain data, compared -/
mutual
inductive PD : D → PyData → Prop where
  | none : PD .none .none
  | bool (b : Bool) : PD (.bool b) (.bool b)
  | int (i : Int) : PD (.int i) (.int i)
  | lst {ds : List D} {ps : List PyData} : PDL ds ps → PD (.lst ds) (.list ps)
  | tup {ds : List D} {ps : List PyData} : PDL ds ps → PD (.tup ds) (.tuple ps)
inductive PDL : List D → List PyData → Prop where
  | nil : PDL [] []
  | cons {d : D} {p : PyData} {ds : List D} {ps : List PyData} : PD d p → PDL ds ps → PDL (d :: ds) (p :: ps)
end
theorem rep_reads {z : Fz} {h : Heap} (hz : Le z h.get?) {v : Value} {d : D} (r : Rep z v d) : ∀ p, PD d p → ∃ as, Reads h v p as :=
  Rep.rec (motive_1 := fun v d _ => ∀ p, PD d p → ∃ as, Reads h v p as) (motive_2 := fun vs ds _ => ∀ ps, PDL ds ps → ∃ as, ReadsAll h vs ps as)
    (fun p hp => by cases hp; exact ⟨_, .none⟩) (fun b p hp => by cases hp; exact ⟨_, .bool _⟩) (fun i t p hp => by cases hp; exact ⟨_, .int _ _⟩)
    (fun a p hp => by cases hp) (fun a p hp => by cases hp) (fun a p hp => by cases hp)
    (fun e _ ih p hp => by
      cases hp with
      | lst hp => obtain ⟨as, r⟩ := ih _ hp; exact ⟨_, .list (hz _ _ e) rfl rfl (by simpa using r)⟩)
    (fun e _ ih p hp => by
      cases hp with
      | tup hp => obtain ⟨as, r⟩ := ih _ hp; exact ⟨_, .tuple (hz _ _ e) rfl rfl (by simpa using r)⟩)
    (fun ps hp => by cases hp; exact ⟨_, .nil⟩)
    (fun _ _ i1 i2 ps hp => by
      cases hp with
      | cons h1 h2 => obtain ⟨as, r⟩ := i1 _ h1; obtain ⟨bs, r'⟩ := i2 _ h2; exact ⟨_, .cons r r'⟩) r
theorem pd_can {d : D} {p : PyData} (h : PD d p) : p.canLay0 = true :=
  PD.rec (motive_1 := fun _ p _ => p.canLay0 = true) (motive_2 := fun _ ps _ => PyData.canLayAll0 ps = true)
    rfl (fun _ => rfl) (fun _ => rfl) (fun _ ih => by simpa [PyData.canLay0] using ih) (fun _ ih => by simpa [PyData.canLay0] using ih) rfl (fun _ _ a b => by simp [PyData.canLayAll0, a, b]) h
theorem pdl_ints : ∀ xs : List Nat, PDL (NL xs) (xs.map fun (n : Nat) => PyData.int (n : Int))
  | [] => .nil
  | x :: xs => .cons (.int _) (pdl_ints xs)
theorem pd_N (xs : List Nat) : PD (N xs) (.list (xs.map fun (n : Nat) => PyData.int (n : Int))) := .lst (pdl_ints xs)
theorem pd_Z (U : Nat) (z : Int) : PD (Z U z) (.tuple [.bool (decide (z < 0)), .list ((lim U z.natAbs).map fun (n : Nat) => PyData.int (n : Int))]) := .tup (.cons (.bool _) (.cons (pd_N _) .nil))
theorem pd_3 (a b c : Int) : PD (.tup [.int a, .int b, .int c]) (.tuple [.int a, .int b, .int c]) := .tup (.cons (.int _) (.cons (.int _) (.cons (.int _) .nil)))
theorem depth_ints : ∀ xs : List Nat, PyData.depthAll (xs.map fun (n : Nat) => PyData.int (n : Int)) = 0
  | [] => rfl
  | x :: xs => by simp [PyData.depthAll, PyData.depth, depth_ints xs]
theorem eqv_ints : ∀ xs ys : List Nat, PyData.eqvAll (xs.map fun (n : Nat) => PyData.int (n : Int)) (ys.map fun (n : Nat) => PyData.int (n : Int)) = decide (xs = ys)
  | [], [] => by simp [PyData.eqvAll]
  | [], y :: ys => by simp [PyData.eqvAll]
  | x :: xs, [] => by simp [PyData.eqvAll]
  | x :: xs, y :: ys => by
    simp only [List.map_cons, PyData.eqvAll, PyData.eqv, eqv_ints xs ys]
    have e : ((x : Int) == (y : Int)) = decide (x = y) := by by_cases h : x = y <;> simp [h]; (first | exact nq306 h | omega)
    rw [e]
    by_cases h : x = y <;> by_cases g : xs = ys <;> simp [h, g]

section
variable {prog : Program} {w : World} {hT : Heap} {os0 : OsState} {sc : Scope} {k : Nat} {σ : St} {env : Env} {kz z : Fz} {s : Shared} {A : Around} {K : D → Prop}

theorem op_eqP {d e : D} {p q : PyData} (hp : PD d p) (hq : PD e q) (hd : p.depth ≤ 8) (h : K (.bool (PyData.eqv p q))) : Op prog w hT os0 0 [d, e] (cmpT .Eq) K := by
  intro A s z vs hr B rr
  cases rr with
  | cons r1 r2 =>
    cases r2 with
    | cons r2 r3 =>
      cases r3
      obtain ⟨as, ra⟩ := rep_reads B.froz r1 p hp
      obtain ⟨bs, rb⟩ := rep_reads B.froz r2 q hq
      exact SeqAt.compareEq_reads ra rb (pd_can hp) (pd_can hq) (by have := hr.unit; (first | exact nq153 hd this | omega)) ⟨_, z, GrowH.rfl B.froz, .bool _, h⟩
theorem op_neP {d e : D} {p q : PyData} (hp : PD d p) (hq : PD e q) (hd : p.depth ≤ 8) (h : K (.bool (!PyData.eqv p q))) : Op prog w hT os0 0 [d, e] (cmpT .NotEq) K := by
  intro A s z vs hr B rr
  cases rr with
  | cons r1 r2 =>
    cases r2 with
    | cons r2 r3 =>
      cases r3
      obtain ⟨as, ra⟩ := rep_reads B.froz r1 p hp
      obtain ⟨bs, rb⟩ := rep_reads B.froz r2 q hq
      exact SeqAt.compareNe_reads ra rb (pd_can hp) (pd_can hq) (by have := hr.unit; (first | exact nq153 hd this | omega)) ⟨_, z, GrowH.rfl B.froz, .bool _, h⟩
theorem op_neNN {xs ys : List Nat} (h : K (.bool (!decide (xs = ys)))) : Op prog w hT os0 0 [N xs, N ys] (cmpT .NotEq) K :=
  op_neP (pd_N xs) (pd_N ys) (by simp [PyData.depth, depth_ints]) (by simpa [PyData.eqv, eqv_ints] using h)
theorem op_neN0 {xs : List Nat} (h : K (.bool (!decide (xs = [])))) : Op prog w hT os0 0 [N xs, .lst []] (cmpT .NotEq) K := op_neNN (ys := []) h
theorem op_neSame {d : D} {p : PyData} (hp : PD d p) (hd : p.depth ≤ 8) (h : K (.bool false)) : Op prog w hT os0 0 [d, d] (cmpT .NotEq) K :=
  op_neP hp hp hd (by rw [SeqAt.eqv_refl _ (pd_can hp)]; exact h)
theorem op_eqSame {d : D} {p : PyData} (hp : PD d p) (hd : p.depth ≤ 8) (h : K (.bool true)) : Op prog w hT os0 0 [d, d] (cmpT .Eq) K :=
  op_eqP hp hp hd (by rw [SeqAt.eqv_refl _ (pd_can hp)]; exact h)
theorem op_neZ {U : Nat} {x y : Int} (e : x = y) (h : K (.bool false)) : Op prog w hT os0 0 [Z U x, Z U y] (cmpT .NotEq) K := by
  subst e; exact op_neSame (pd_Z U x) (by simp [PyData.depth, PyData.depthAll, depth_ints]) h
theorem op_ne3 {a b c a' b' c' : Int} (e : a = a' ∧ b = b' ∧ c = c') (h : K (.bool false)) : Op prog w hT os0 0 [.tup [.int a, .int b, .int c], .tup [.int a', .int b', .int c']] (cmpT .NotEq) K := by
  obtain ⟨rfl, rfl, rfl⟩ := e; exact op_neSame (pd_3 a b c) (by simp [PyData.depth, PyData.depthAll]) h
theorem op_eq3 {a b c a' b' c' : Int} (e : a = a' ∧ b = b' ∧ c = c') (h : K (.bool true)) : Op prog w hT os0 0 [.tup [.int a, .int b, .int c], .tup [.int a', .int b', .int c']] (cmpT .Eq) K := by
  obtain ⟨rfl, rfl, rfl⟩ := e; exact op_eqSame (pd_3 a b c) (by simp [PyData.depth, PyData.depthAll]) h
theorem op_isNone {d : D} {b : Bool} (hb : match d with | .none => b = true | .lst _ => b = false | .tup _ => b = false | _ => False) (h : K (.bool b)) : Op prog w hT os0 0 [d, .none] (cmpT .Is) K := by
  intro A s z vs hr B rr
  cases rr with
  | cons r1 r2 =>
    cases r2 with
    | cons r2 r3 =>
      cases r3
      cases r2
      cases r1 with
      | none => subst hb; exact wpAny_is_self (by rfl) ⟨_, z, GrowH.rfl B.froz, .bool _, h⟩
      | lst _ _ => subst hb; exact is_ref_none ⟨_, z, GrowH.rfl B.froz, .bool _, h⟩
      | tup _ _ => subst hb; exact is_ref_none ⟨_, z, GrowH.rfl B.froz, .bool _, h⟩
      | bool => exact hb.elim
      | int => exact hb.elim
      | fn => exact hb.elim
      | bi => exact hb.elim
      | ty => exact hb.elim

/-- x.extend(e) -/
theorem WX.extend {x : Str} {e : Expr} {p1 p2 p3 p4 : Pos} {pn : Option Addr} {xs : List D} {Q : Fl → St → Prop} (hx : look σ x = some (.own pn xs)) (hst : (kindE e != 1) = true) {pl : Env → Sem Bool}
    (hc : ∀ env, eval (.Call (.Attribute (.Name x p1) "extend" p2) [e] [] p3) env = (do
      let ov ← eval (.Name x p1) env
      standAt p2.atName
      let (f, first) ← holding [ov] (getMethod ov "extend" (pl env))
      callWith p3 f first (backTo p3 (starEach [e] env)) []))
    (h : ∀ a, WE prog w hT os0 k sc e ((x, .own (some a) xs) :: σ) (KL fun ys σ2 => xs.length + ys.length ≤ sizeLine ∧ σ2.lookup x = some (.own (some a) xs) ∧ Q .next ((x, .own pn (xs ++ ys)) :: σ2))) :
    WX prog w hT os0 k sc (.Expr (.Call (.Attribute (.Name x p1) "extend" p2) [e] [] p3) p4) σ Q := by
  intro env A s kz z he hr S
  obtain ⟨hx, hd, hn⟩ := look_at hx
  obtain ⟨a, vs, n, m, hm, hv, hg, hrep, hk, hz, hp, _, _⟩ := S.own hx
  have hint : interactive env = false := by unfold interactive; rw [he.scope, he.kind]; rfl
  refine wpAny_Expr (MethodCall_ (pl := pl env) (wpAny_Name (load_var he S.keep hm hv ?_ hn) hd) (hc env)) hint rfl
  refine getMethod_list_of F.slot_list_extend F.type_list_extend ⟨_, hg, rfl, _, rfl⟩ ⟨_, hg, rfl⟩ ?_
  show wpAny _ A (callWith p3 (.builtin "list.extend") [.ref a] (backTo p3 (starEach [e] env)) []) _ _ _
  rw [star_cons hst env]
  refine P.extend_list ((h a).step he hr (S.pin hx hm hv) fun v d σ2 z2 s2 g2 S2 r2 q => ?_)
  obtain ⟨hsz, hx2, q⟩ := q
  obtain ⟨a', vs', n', _, _, _, hg', hrep', _, _, hp', upd, _⟩ := S2.own hx2
  obtain rfl : a' = a := hp' a rfl
  cases r2 with
  | @lst b us nb _ hb hl =>
    have hsz' : vs'.toArray.size + us.toArray.size ≤ sizeLine := by simp [hrep'.length, hl.length]; exact hsz
    refine ⟨b, vs'.toArray, us.toArray, n', nb, by (first | exact nq307 hsz' | omega), by (first | exact nq308 hsz' | omega), extend_door hsz', rfl, hg', S2.froz _ _ hb, ?_⟩
    obtain ⟨n2, hu⟩ := mapSeq_list (· ++ us.toArray) hg'
    have hset : ((vs'.toArray) ++ us.toArray).toList = vs' ++ us := by simp
    rw [hset] at hu
    have S4 := upd _ s2.toks _ n2 _ (fun b o hb e => by rw [Heap.get?_update_other _ _ (Ne.symm hb)]; exact e) hu (hrep'.app hl)
    exact ⟨.next, _, z2, g2, S4.unpin hp, .next, q⟩

/-- x[i], x[j] = e -/
theorem WX.setTwo {x : Str} {p p' : Pos} {e i j : Expr} {p2 p3 tp pos : Pos} {m : Nat} {Q : Fl → St → Prop}
    (h : WE prog w hT os0 k sc e σ (KT2 fun d1 d2 σ1 => ∃ pn xs, look σ1 x = some (.own pn xs) ∧ Idx prog w hT os0 k sc i x xs σ1 fun a => 0 ≤ a ∧ a < xs.length ∧ a < 2 ^ 63 ∧
      Idx prog w hT os0 k sc j x (xs.set a.toNat d1) ((x, .own pn (xs.set a.toNat d1)) :: σ1) fun b => 0 ≤ b ∧ b < (xs.set a.toNat d1).length ∧ b < 2 ^ 63 ∧
        Q .next ((x, .own pn ((xs.set a.toNat d1).set b.toNat d2)) :: (x, .own pn (xs.set a.toNat d1)) :: σ1)))
    (hw : ∀ env : Env, env.scope = sc → swappedStores [.Tuple [.Subscript (.Name x p) i p2, .Subscript (.Name x p') j p3] m tp] e env = pure Option.none) (hs : (kindE e != 3) = true) :
    WX prog w hT os0 k sc (.Assign [.Tuple [.Subscript (.Name x p) i p2, .Subscript (.Name x p') j p3] m tp] e pos) σ Q := by
  intro env A s kz z he hr S
  refine Assign_Tuple (h.step he hr S fun v d σ1 z1 s1 g1 S1 rv q => ?_) (no_swap1 hs _ _ env) (hw env he.scope)
  obtain @⟨d1, d2, _, pn, xs, hx, hi⟩ := q
  cases rv with
  | tup ha hl =>
    cases hl with
    | @cons v1 _ _ _ q1 hl =>
      cases hl with
      | @cons v2 _ _ _ q2 hl =>
        cases hl
        refine wpAny_assign_Tuple (items := #[v1, v2]) hr.1 ⟨_, S1.froz _ _ ha, rfl, _, rfl⟩ rfl rfl fun h1 hx1 => ?_
        have S2 := S1.more (h' := h1) (t := s1.toks) (fun b o e => hx1 b o (fun q => by rw [q] at e; rw [get_new] at e; cases e) e)
        have as : ∀ {i : Expr} {p q : Pos} {v : Value} {s : Shared} {X : Unit → Shared → Prop}, wpAny (model prog w) A (eval (.Name x p) env) (fun ov s2 => wpAny (model prog w) A (eval i env) (fun iv s3 => wpAny (model prog w) A (PySem.setItem ov iv v) (fun _ s4 => X () s4) (fun _ _ => False) s3) (fun _ _ => False) s2) (fun _ _ => False) s →
            wpAny (model prog w) A (PySem.assign (.Subscript (.Name x p) i q) env v) X (fun _ _ => False) s := fun {i p q v s X} h => by
          rw [assign_Subscript]
          refine wpAny_bind (wpAny_holding (wpAny_mono h (fun ov s2 h2 => wpAny_bind (wpAny_holding (wpAny_mono h2 (fun iv s3 h3 => wpAny_bind (wpAny_standAt (wpAny_bind (wpAny_holding (wpAny_mono h3 (fun _ s4 h4 => ?_) fun _ _ x => x))))) fun _ _ x => x))) fun _ _ x => x))
          exact wpAny_release h4
        show wpAny _ A (do holding [v2] (PySem.assign (.Subscript (.Name x p) i p2) env v1); do holding [] (PySem.assign (.Subscript (.Name x p') j p3) env v2); pure ()) _ _ _
        refine wpAny_bind (wpAny_holding (as (sub_store he hr S2 hx q1 hi (fun a z' s' hj g' S' => ?_))))
        refine wpAny_bind (wpAny_holding (as (sub_store he hr S' (show look ((x, LV.own pn (xs.set a.toNat d1)) :: σ1) x = some (.own pn (xs.set a.toNat d1)) by
          obtain ⟨_, q1, q2⟩ := look_at hx
          simp [look, okN, q1, q2, List.lookup_cons]) (Rep.mono g'.1 q2) hj (fun b z'' s'' q g'' S'' => wpAny_pure ?_))))
        exact ⟨.next, _, z'', (g1.trans g').trans g'', S'', .next, q⟩

/-! ## comprehensions -/
theorem WE.comp {elt target iter : Expr} {ifs : List Expr} {gens : List Comprehension} {scope : Scope} {pos : Pos} {Q : D → St → Prop}
    (C : CompScope scope sc)
    (h : WI prog w hT os0 k sc (relS scope sc) target iter σ (CompIn prog w hT os0 k sc (.ListComp elt (⟨target, iter, ifs, 0⟩ :: gens) scope pos) target scope (KOfL Q)))
    (hs : (kindE iter != 4) = true := by rfl) :
    WE prog w hT os0 k sc (.ListComp elt (⟨target, iter, ifs, 0⟩ :: gens) scope pos) σ Q :=
  WE.ofL (WL.comp C h hs)

/-- a heap that parts from the old one at one dead dict alone -/
theorem Sim.offDict {C : Addr} {m : Str → Option Value} {h' : Heap} (S : Sim hT os0 sc env σ kz z s) (hk : kz C = none) (hz : z C = none) (hne : C ≠ env.locals) (hC : s.heap.Ns C m) (hs : Heap.SameBut C s.heap h') :
    Sim hT os0 sc env σ kz z { s with heap := h' } := by
  have keep : ∀ b o, b ≠ C → s.heap.get? b = some o → h'.get? b = some o := fun b o hb e => (hs.2 b hb).trans e
  obtain ⟨m0, α, h1, h2, h3⟩ := id S.loc
  have cellK : ∀ {ca v}, s.heap.IsCell ca v → h'.IsCell ca v := fun hc => by
    have := cell_not_dict hc hC
    obtain ⟨o, ho, hd⟩ := hc
    exact ⟨o, keep _ _ this ho, hd⟩
  refine S.touch (t := s.toks) Le.rfl S.top hk hz keep (fun x ca v _ _ hc => ⟨v, cellK hc⟩) ⟨m0, α, h1.sameBut hs hne.symm, fun x lv e => ?_, h3⟩
  obtain ⟨v, b1, b2⟩ := h2 x lv e
  refine ⟨v, ?_, ?_⟩
  · rcases b1 with ⟨a, b⟩ | ⟨ca, c1, c2, c3⟩ | ⟨ca, o, a, b, c, d⟩
    · exact .loc a b
    · exact .cell ca c1 c2 (cellK c3)
    · exact .free ca o a b c d
  · cases lv with
    | val d => exact b2
    | own p xs =>
      obtain ⟨d1, ⟨ws, n2, d2, d3⟩, d4, d5, d6⟩ := b2
      exact ⟨d1, ⟨ws, n2, keep _ _ (list_not_dict d2 hC) d2, d3⟩, d4, d5, d6⟩

/-- a local name bound to a comprehension: stored before the frame of it is let go -/
theorem WX.assignComp {elt target iter : Expr} {ifs : List Expr} {gens : List Comprehension} {scope : Scope} {pos spos p : Pos} {x : Str} {Q : Fl → St → Prop} (hx : sc.names.lookup x = some .local)
    (C : CompScope scope sc)
    (h : WI prog w hT os0 k sc (relS scope sc) target iter σ (CompIn prog w hT os0 k sc (.ListComp elt (⟨target, iter, ifs, 0⟩ :: gens) scope pos) target scope (fun lv σ' => Q .next ((x, lv) :: σ'))))
    (hsw : ∀ env : Env, env.scope = sc → swapsWith (.ListComp elt (⟨target, iter, ifs, 0⟩ :: gens) scope pos) (some (.Name x p)) spos.line env = pure true := by rintro ⟨⟩ rfl; rfl)
    (hs : (kindE iter != 4) = true := by rfl) :
    WX prog w hT os0 k sc (.Assign [.Name x p] (.ListComp elt (⟨target, iter, ifs, 0⟩ :: gens) scope pos) spos) σ Q := by
  intro env A s kz z he hr S
  have kd : env.scope.kind = .function := he.scope ▸ he.kind
  show wpAny _ A (exec (.Assign [.Name x p] (.ListComp elt (⟨target, iter, ifs, 0⟩ :: gens) scope pos) spos) env) _ _ s
  rw [exec_Assign_Name_used _ _ _ _ (hsw env he.scope)]
  refine wpAny_bind (wpAny_standAt (wpAny_bind ?_))
  show wpAny _ A (do let _ ← comprehension (.ListComp elt (⟨target, iter, ifs, 0⟩ :: gens) scope pos) scope env _ (newList []) false (eval iter env) (some (PySem.assign (.Name x p) env))) _ _ s
  have hfree : ∀ p ∈ scope.names, p.2 = .free → ∃ ca, env.cells.lookup p.1 = some ca := fun p hp hf => by
    obtain ⟨ca, _, h1, _⟩ := S.cellT p.1 (C.free p hp hf)
    exact ⟨ca, h1⟩
  refine wpAny_bind (wpAny_mono (wpAny_comprehension_free (Q := fun _ s' => Wat hT os0 sc env kz z RepF Q .next s') (e := .ListComp elt (⟨target, iter, ifs, 0⟩ :: gens) scope pos) (g := ⟨target, iter, ifs, 0⟩) (gs := gens) rfl (no_fold hs env) (closure_eq hfree) C.kind C.locals ?_) (fun _ s' hq => wpAny_pure (wpAny_pure hq)) fun _ _ e => e)
  refine wpAny_mono (h env A s kz z he hr S) (fun x1 s1 hx1 => wpAny_mono hx1 (fun it s2 hit => ?_) fun _ _ x => x) fun _ _ x => x
  obtain ⟨n, bT, σ1, z1, I, fp, g1, S1, X, i0, o1, σc, K, hsub, hcap, loop, fin⟩ := hit
  refine comp_whole (Q := fun lv σ' => Q .next ((x, lv) :: σ')) C he hr g1 S1 X i0 o1 hsub hcap loop (fun σe xs ke => fin σe xs ke) (fun _ _ _ => rfl) fun a C' s5 m hn ⟨lv, σ', z', kz1, c1, c2, c3, c4, c5, c6, c7⟩ => ?_
  have S5 : Sim hT os0 sc env σ' kz1 z' s5 := c7 s5.heap ⟨rfl, fun _ _ => rfl⟩
  refine wpAny_assign_Name ?_
  refine store_slotX he S5 S.top c5 (.inl hx) fun s6 S6 hk => ?_
  have kC : kz C' = none := by
    cases q : kz C' with
    | none => rfl
    | some o => rw [c5.le _ _ q] at c1; cases c1
  have hn6 : s6.heap.Ns C' m := by
    obtain ⟨o, es, ep, ho, r⟩ := hn
    exact ⟨o, es, ep, hk hx _ _ c3 ho, r⟩
  exact ⟨m, hn6, fun h' hs' => ⟨.next, _, z', c4, S6.offDict kC c2 c3 hn6 hs', .next, c6⟩⟩
theorem WX.assignS {x : Str} {e : Expr} {p pos} {Q : Fl → St → Prop} (hx : varB sc x = true) (hs : ∀ env : Env, env.scope = sc → swapsWith e (some (.Name x p)) pos.line env = pure false)
    (h : WL prog w hT os0 k sc e σ fun lv σ1 => Q .next ((x, lv) :: σ1)) : WX prog w hT os0 k sc (.Assign [.Name x p] e pos) σ Q := fun env A s kz z he hr S =>
  wpAny_Assign_Name (wpAny_mono (h env A s kz z he hr S) (fun v s1 ⟨lv, σ1, z1, kz1, g1, sl, S1, q⟩ =>
    store_slot he S1 S.top sl (varB_at hx) fun s2 S2 => ⟨.next, _, z1, g1, S2, .next, q⟩) fun _ _ x => x) (hs env he.scope)
end
end Smith

end

section
namespace Smith
section
variable {prog : Program} {w : World} {hT : Heap} {os0 : OsState} {sc scT : Scope} {k : Nat} {σ : St}
/-- a list by a function of the place -/
noncomputable abbrev LR (n : Nat) (f : Nat → D) : D := .lst ((List.range n).map f)
noncomputable abbrev mat (U : Nat) (M : Nat → Nat → Int) : D := LR 3 fun i => LR 3 fun j => Z U (M i j)
theorem LR_len (n : Nat) (f : Nat → D) : ((List.range n).map f).length = n := by simp
theorem LR_get {n i : Nat} {f : Nat → D} (h : i < n) : ((List.range n).map f)[i]?.getD .none = f i := by simp [h]
theorem LR_congr {n : Nat} {f g : Nat → D} (h : ∀ i, i < n → f i = g i) : LR n f = LR n g := by
  unfold LR; congr 1; exact List.map_congr_left fun i hi => h i (List.mem_range.mp hi)
theorem mat_congr {U : Nat} {M M' : Nat → Nat → Int} (h : ∀ i j, i < 3 → j < 3 → M i j = M' i j) : mat U M = mat U M' :=
  LR_congr fun i hi => LR_congr fun j hj => by rw [h i j hi hj]
theorem item_R {f : Nat → D} {n : Nat} {j : Int} (h0 : 0 ≤ j) (h1 : j < n) (h2 : n < 2 ^ 62) : ItemOf (LR n f) j (f j.toNat) := by
  refine ItemOf.lst (by rw [LR_len]; (first | exact nq68 h0 | omega)) (by (first | exact nq37 h0 | omega)) (by (first | exact nq69 h1 h2 | omega)) ?_
  have : pidx j ((List.range n).map f).length = j.toNat := by unfold pidx; rw [if_neg (by (first | exact nq44 h0 | omega))]
  have h3 : j.toNat < n := by (first | exact nq70 h0 h1 | omega)
  rw [this]; simp [h3]
theorem exItemRI {f : Nat → D} {n : Nat} {j : Int} {Q : D → St → Prop} {σ : St} (h0 : 0 ≤ j) (h1 : j < n) (h2 : n < 2 ^ 62) (h : Q (f j.toNat) σ) : KItem2 (LR n f) Q (.int j) σ := ⟨item_R h0 h1 h2, h⟩
theorem exItemR {f : Nat → D} {n j : Nat} {Q : D → St → Prop} {σ : St} (h1 : j < n) (h2 : n < 2 ^ 62) (h : Q (f j) σ) : KItem2 (LR n f) Q (.int (j : Int)) σ := exItemRI (by (first | exact nq3 | omega)) (by (first | exact nq103 h1 | omega)) h2 (by simpa using h)
theorem exItemR0 {f : Nat → D} {n : Nat} {Q : D → St → Prop} {σ : St} (h1 : 0 < n) (h2 : n < 2 ^ 62) (h : Q (f 0) σ) : KItem2 (LR n f) Q (.int 0) σ := exItemR (j := 0) h1 h2 h
theorem exItemR1 {f : Nat → D} {n : Nat} {Q : D → St → Prop} {σ : St} (h1 : 1 < n) (h2 : n < 2 ^ 62) (h : Q (f 1) σ) : KItem2 (LR n f) Q (.int 1) σ := exItemR (j := 1) h1 h2 h
theorem exItemR2 {f : Nat → D} {n : Nat} {Q : D → St → Prop} {σ : St} (h1 : 2 < n) (h2 : n < 2 ^ 62) (h : Q (f 2) σ) : KItem2 (LR n f) Q (.int 2) σ := exItemR (j := 2) h1 h2 h
theorem ItemOf.ownI {x : Str} {a : Addr} {xs : List D} {j : Int} {Q : D → St → Prop} {d : D} (h0 : 0 ≤ j) (h1 : j < xs.length) (h2 : xs.length < 2 ^ 62) (hd : xs[j.toNat]? = some d) (h : Q d σ) :
    KItemOwn x a xs σ Q (.int j) ((x, .own (some a) xs) :: σ) :=
  ⟨by (first | exact nq68 h0 | omega), by (first | exact nq37 h0 | omega), by (first | exact nq69 h1 h2 | omega), by unfold pidx; rw [if_neg (by (first | exact nq44 h0 | omega))]; exact hd, h⟩
theorem ItemOf.own0 {d0 : D} {ds : List D} {Q : D → St → Prop} {x : Str} {a : Addr} (hl : ds.length < 2 ^ 61) (h : Q d0 σ) :
    KItemOwn x a (d0 :: ds) σ Q (.int 0) ((x, .own (some a) (d0 :: ds)) :: σ) :=
  ItemOf.ownI (by (first | exact nq45 | omega)) (by rw [List.length_cons]; (first | exact nq309 | omega)) (by rw [List.length_cons]; (first | exact nq310 hl | omega)) rfl h
theorem ItemOf.own1 {d0 d1 : D} {ds : List D} {Q : D → St → Prop} {x : Str} {a : Addr} (hl : ds.length < 2 ^ 61) (h : Q d1 σ) :
    KItemOwn x a (d0 :: d1 :: ds) σ Q (.int 1) ((x, .own (some a) (d0 :: d1 :: ds)) :: σ) :=
  ItemOf.ownI (by (first | exact nq106 | omega)) (by rw [List.length_cons, List.length_cons]; (first | exact nq311 | omega)) (by rw [List.length_cons, List.length_cons]; (first | exact nq312 hl | omega)) rfl h
theorem ItemOf.ownR {f : Nat → D} {n : Nat} {j : Int} {Q : D → St → Prop} {x : Str} {a : Addr} (h0 : 0 ≤ j) (h1 : j < n) (h2 : n < 2 ^ 61) (h : Q (f j.toNat) σ) :
    KItemOwn x a ((List.range n).map f) σ Q (.int j) ((x, .own (some a) ((List.range n).map f)) :: σ) := by
  have h3 : j.toNat < n := by (first | exact nq70 h0 h1 | omega)
  exact ItemOf.ownI (xs := (List.range n).map f) h0 (by rw [LR_len]; (first | exact nq313 h1 | omega)) (by rw [LR_len]; (first | exact nq314 h2 | omega)) (by simp [h3]) h
theorem exItemRM {f : Nat → D} {n : Nat} {Q : D → St → Prop} {σ : St} (h1 : 0 < n) (h2 : n < 2 ^ 62) (h : Q (f (n - 1)) σ) : KItem2 (LR n f) Q (.int (-1)) σ := by
  refine ⟨ItemOf.lst (by rw [LR_len]; (first | exact nq148 h1 | omega)) (by (first | exact nq149 | omega)) (by (first | exact nq150 | omega)) ?_, h⟩
  have : pidx (-1) ((List.range n).map f).length = n - 1 := by unfold pidx; rw [LR_len, if_pos (by (first | exact nq151 | omega))]; (first | exact nq152 | omega)
  rw [this]
  have : n - 1 < n := by (first | exact nq105 h1 | omega)
  simp [this]
theorem exItem2 {d e f : D} {ds : List D} {Q : D → St → Prop} {σ : St} (h : Q f σ) : KItem2 (.tup (d :: e :: f :: ds)) Q (.int 2) σ := ⟨ItemOf.tup (j := 2) (by decide) rfl, h⟩
theorem ItemOf.ownR0 {f : Nat → D} {n : Nat} {Q : D → St → Prop} {x : Str} {a : Addr} (h1 : 0 < n) (h2 : n < 2 ^ 61) (h : Q (f 0) σ) :
    KItemOwn x a ((List.range n).map f) σ Q (.int 0) ((x, .own (some a) ((List.range n).map f)) :: σ) := ItemOf.ownR (by (first | exact nq45 | omega)) (by (first | exact nq154 h1 | omega)) h2 h
theorem ItemOf.ownR1 {f : Nat → D} {n : Nat} {Q : D → St → Prop} {x : Str} {a : Addr} (h1 : 1 < n) (h2 : n < 2 ^ 61) (h : Q (f 1) σ) :
    KItemOwn x a ((List.range n).map f) σ Q (.int 1) ((x, .own (some a) ((List.range n).map f)) :: σ) := ItemOf.ownR (by (first | exact nq106 | omega)) (by (first | exact nq315 h1 | omega)) h2 h
theorem ItemOf.ownR2 {f : Nat → D} {n : Nat} {Q : D → St → Prop} {x : Str} {a : Addr} (h1 : 2 < n) (h2 : n < 2 ^ 61) (h : Q (f 2) σ) :
    KItemOwn x a ((List.range n).map f) σ Q (.int 2) ((x, .own (some a) ((List.range n).map f)) :: σ) := ItemOf.ownR (by (first | exact nq72 | omega)) (by (first | exact nq316 h1 | omega)) h2 h
theorem op_mulNB {a b : Nat} {K : D → Prop} (hx : IntMulOk (a : Int) (b : Int)) (h : K (.int ((a * b : Nat) : Int))) : Op prog w hT os0 0 [.int (a : Int), .int (b : Int)] (binT .Mult) K := op_mul hx (by simpa using h)
theorem op_powN {b : Nat} {K : D → Prop} (hb : b ≤ 1000000) (h : K (.int ((2 ^ b : Nat) : Int))) : Op prog w hT os0 0 [.int 2, .int (b : Int)] (binT .Pow) K :=
  op_pow (by (first | exact nq3 | omega)) (by (first | exact nq104 hb | omega)) (by decide) (by simpa using h)
theorem op_mulNR {a b : Nat} {K : D → Prop} (hx : b < 2 ^ 64) (h : K (.int ((a * b : Nat) : Int))) : Op prog w hT os0 0 [.int (a : Int), .int (b : Int)] (binT .Mult) K :=
  op_mul (IntMulOk.of_right (intBits_small (by simpa using hx))) (by simpa using h)
theorem op_addL {xs ys : List D} {K : D → Prop} (hsz : xs.length + ys.length ≤ sizeLine) (h : K (.lst (xs ++ ys))) : Op prog w hT os0 0 [.lst xs, .lst ys] (binT .Add) K := (opl_add hsz).op h
theorem intBits_lt {x : Int} {b : Nat} (h : x.natAbs < 2 ^ b) : Builtin.Int.intBits x ≤ b := by
  unfold Builtin.Int.intBits
  split
  · (first | exact nq317 | omega)
  · rename_i h0
    have := (Nat.log2_lt (n := x.natAbs) (k := b) (by simpa using h0)).mpr h
    (first | exact nq155 this | omega)
theorem mulOk {x y : Int} {a b : Nat} (hx : x.natAbs < 2 ^ a) (hy : y.natAbs < 2 ^ b) (ha : a ≤ 2 ^ 20) (hb : b ≤ 2 ^ 20) : IntMulOk x y := IntMulOk.of_bits (Nat.le_trans (intBits_lt hx) ha) (Nat.le_trans (intBits_lt hy) hb)
theorem len_bits {U n b : Nat} (hW : 2 ≤ U) (h : n < 2 ^ b) : (lim U n).length ≤ b := lim_len hW (Nat.lt_of_lt_of_le h (Nat.pow_le_pow_left hW b))
theorem op_isN {K : D → Prop} (h : K (.bool true)) : Op prog w hT os0 0 [.none, .none] (cmpT .Is) K := op_isNone (b := true) rfl h
theorem op_isL {ds : List D} {K : D → Prop} (h : K (.bool false)) : Op prog w hT os0 0 [.lst ds, .none] (cmpT .Is) K := op_isNone (b := false) rfl h
inductive KRevN : D → (D → St → Prop) → D → St → Prop where
  | mk {xs : List Nat} {Q : D → St → Prop} {σ2 : St} : xs.length ≤ sizeLine → Q (N xs.reverse) σ2 → KRevN (N xs) Q (.int (-1)) σ2
theorem WE.revN {v e : Expr} {p pos : Pos} {Q : D → St → Prop}
    (h : WE prog w hT os0 k sc v σ fun d1 σ1 => WE prog w hT os0 k sc e σ1 (KRevN d1 Q)) :
    WE prog w hT os0 k sc (.Subscript v (.Slice Option.none Option.none (Option.some e) p) pos) σ Q :=
  WE.rev (h.mono fun d1 σ1 h1 => h1.mono fun d2 σ2 q => by
    obtain @⟨xs, _, _, hl, q⟩ := q
    exact ⟨NL xs, rfl, rfl, by rw [N_len]; exact hl, by rw [show (NL xs).reverse = NL xs.reverse by simp [NL]]; exact q⟩)
theorem look_of_mem {β : Type} {x : Str} {y : β} : ∀ {σ : List (Str × β)}, (x, y) ∈ σ → ∃ z, σ.lookup x = some z ∧ (x, z) ∈ σ
  | (a, b) :: r, h => by
    by_cases e : x = a
    · subst e; exact ⟨b, by simp, .head _⟩
    · rcases List.mem_cons.mp h with q | q
      · exact absurd (Prod.mk.inj q).1 e
      · obtain ⟨z, h1, h2⟩ := look_of_mem q
        exact ⟨z, by rw [List.lookup_cons, show (x == a) = false by simpa using e]; exact h1, .tail _ h2⟩
theorem Sub.self {σc σ1 : St} (h : Sub σc σ1) : Sub σc σc := fun p hp => by
  obtain ⟨z, h1, h2⟩ := look_of_mem (x := p.1) (y := p.2) hp
  rw [h1, ← h _ h2, h p hp]
theorem caps {scope : Scope} {σc : St} (h : (σc.all fun p => capt scope p.1) = true) : ∀ p ∈ σc, capt scope p.1 = true := List.all_eq_true.mp h
inductive KMap (prog : Program) (w : World) (hT : Heap) (os0 : OsState) (k : Nat) (sc : Scope) (elt : Expr) (scope : Scope) (Q : D → St → Prop) (n : Nat) (bT : Nat → St → St) (σ1 : St) : Prop where
  | mk (σc : St) (f : Nat → D) : Sub σc σ1 → (∀ p ∈ σc, capt scope p.1 = true) → n ≤ sizeLine →
      (∀ i, i < n → WE prog w hT os0 k (relS scope sc) elt (bT i σc) fun d σ' => d = f i ∧ Sub σc σ') → Q (LR n f) (σc ++ σ1.filter fun p => !capt scope p.1) → KMap prog w hT os0 k sc elt scope Q n bT σ1
theorem WI.mono {target iter : Expr} {Q Q' : Nat → (Nat → St → St) → St → Prop} (h : WI prog w hT os0 k sc scT target iter σ Q) (hq : ∀ n bT σ', Q n bT σ' → Q' n bT σ') : WI prog w hT os0 k sc scT target iter σ Q' :=
  fun env A s kz z a b c => wpAny_mono (h env A s kz z a b c) (fun x s1 y => wpAny_mono y (fun it s2 ⟨n, bT, σ', z', I, fp, h1, h2, h3, h4, h5, q⟩ => ⟨n, bT, σ', z', I, fp, h1, h2, h3, h4, h5, hq _ _ _ q⟩) fun _ _ x => x) fun _ _ x => x
/-- a comprehension whose element changes nothing -/
theorem WE.map {elt target iter : Expr} {scope : Scope} {pos : Pos} {Q : D → St → Prop}
    (C : CompScope scope sc)
    (h : WI prog w hT os0 k sc (relS scope sc) target iter σ (KMap prog w hT os0 k sc elt scope Q))
    (hs : (kindE iter != 4) = true := by rfl) :
    WE prog w hT os0 k sc (.ListComp elt [⟨target, iter, [], 0⟩] scope pos) σ Q :=
  WE.comp C (WI.mono h fun n bT σ1 ⟨σc, f, b1, b2, b3, b4, b5⟩ => ⟨σc, fun σe xs => σe = σc ∧ xs = (List.range n).map f, b1, b2,
      (CLoop.one (fun i σe xs => σe = σc ∧ xs = (List.range i).map f) ⟨rfl, rfl⟩ (fun i σ' xs hi ⟨_, e⟩ => by rw [e]; simp; (first | exact nq156 b3 hi | omega)) fun i σ' xs hi ⟨e1, e2⟩ => by
        subst e1 e2
        exact (b4 i hi).mono fun d σ'' ⟨e, hsub⟩ => ⟨_, hsub, rfl, by rw [e, List.range_succ, List.map_append]; rfl⟩),
      fun σe xs ⟨e1, e2⟩ => by subst e1 e2; exact ⟨_, Sub.self b1, b2, b5⟩⟩) hs
section
variable {fa : Nat → Addr} {x y : Str} {p p' p2 p3 tp : Pos} {m : Nat} {e1 e2 e3 : Expr} {Q : Nat → (Nat → St → St) → St → Prop}
theorem WI.r1 (hx : varB scT x = true) (hg : gk sc "range" = true) (hst : plainL [e1] = true) (P : Facts hT fa) (h : WA prog w hT os0 k sc p3 [e1] σ (KRg1 x Q)) : WI prog w hT os0 k sc scT (.Name x p) (.Call (.Name "range" p2) [e1] [] p3) σ Q := .range1 hx hg hst P.range h
theorem WI.r2 (hx : varB scT x = true) (hg : gk sc "range" = true) (hst : plainL [e1, e2] = true) (P : Facts hT fa) (h : WA prog w hT os0 k sc p3 [e1, e2] σ (KRg2 x Q)) : WI prog w hT os0 k sc scT (.Name x p) (.Call (.Name "range" p2) [e1, e2] [] p3) σ Q := .range2 hx hg hst P.range h
theorem WI.rD (hx : varB scT x = true) (hg : gk sc "range" = true) (hst : plainL [e1, e2, e3] = true) (P : Facts hT fa) (h : WA prog w hT os0 k sc p3 [e1, e2, e3] σ (KRgD x Q)) : WI prog w hT os0 k sc scT (.Name x p) (.Call (.Name "range" p2) [e1, e2, e3] [] p3) σ Q := .rangeDown hx hg hst P.range h
theorem WI.en (hx : varB scT x = true) (hy : varB scT y = true) (hg : gk sc "enumerate" = true) (hst : plainL [e1] = true) (P : Facts hT fa) (h : WA prog w hT os0 k sc p3 [e1] σ (KEnum x y Q)) : WI prog w hT os0 k sc scT (.Tuple [.Name x p, .Name y p'] m tp) (.Call (.Name "enumerate" p2) [e1] [] p3) σ Q := .enum hx hy hg hst P.enumerate h
theorem WI.zi (hx : varB scT x = true) (hy : varB scT y = true) (hg : gk sc "zip" = true) (hst : plainL [e1, e2] = true) (P : Facts hT fa) (h : WA prog w hT os0 k sc p3 [e1, e2] σ (KZip x y Q)) : WI prog w hT os0 k sc scT (.Tuple [.Name x p, .Name y p'] m tp) (.Call (.Name "zip" p2) [e1, e2] [] p3) σ Q := .zip hx hy hg hst P.zip h
end
theorem WE.lenO {fa : Nat → Addr} {x : Str} {p p2 pos : Pos} {pn : Option Addr} {xs : List D} {Q : D → St → Prop} (hx : look σ x = some (.own pn xs)) (hg : gk sc "len" = true) (P : Facts hT fa) (hl : xs.length < 2 ^ 62) (q : Q (.int xs.length) σ) :
    WE prog w hT os0 k sc (.Call (.Name "len" p2) [.Name x p] [] pos) σ Q := .lenOwn hg P.len hx hl q
end

end Smith

end

namespace Smith
local macro_rules | `(tactic| walk_at "z") => `(tactic| first | exact Eq.refl _ | assumption)
local macro_rules | `(tactic| walk_at "s") => `(tactic| (first
  | ((fail_if_success fail_if_success with_reducible refine' gE ?_); first | ((with_reducible refine' WE.name ?_ ?_); rotate_left; walk_at "z") | with_reducible refine' WE.int ?_ | ((with_reducible refine' WE.nameOwn ?_ ?_); rotate_left; walk_at "z") | ((with_reducible refine' WE.globF ?_ ?_ ?_); rotate_left; walk_at "f"; walk_at "z") | ((with_reducible refine' WE.glob ?_ ?_ ?_); rotate_left; walk_at "t"; walk_at "z") | with_reducible refine' WE.binop ?_ | ((with_reducible refine' WE.sliceOwn ?_ ?_); rotate_left 2; walk_at "z"; intro a) | with_reducible refine' WE.revN ?_ | with_reducible refine' WE.sliceN ?_ | ((with_reducible refine' WE.itemOwn ?_ ?_ ?_); rotate_left 2; walk_at "z"; walk_at "z"; intro a) | ((with_reducible refine' WE.item ?_ ?_); walk_at "z") | ((with_reducible refine' WE.callM ?_ ?_ ?_ ?_); rotate_left 3; walk_at "z"; walk_at "m"; walk_at "z"; intro a) | ((with_reducible refine' WE.lenO ?_ ?_ ?_ ?_ ?_); rotate_left 3; walk_at "z"; walk_at "z"; walk_at "z") | ((with_reducible refine' WE.callBG ?_ ?_ ?_ ?_); rotate_left; walk_at "t"; walk_at "z"; walk_at "z") | ((with_reducible refine' WE.callTG ?_ ?_ ?_ ?_); rotate_left; walk_at "t"; walk_at "z"; walk_at "z") | ((with_reducible refine' WE.callAN ?_ ?_ ?_ ?_ ?_); rotate_left 2; walk_at "z"; walk_at "z"; walk_at "z"; walk_at "z") | ((with_reducible refine' WE.callAG ?_ ?_ ?_ ?_); rotate_left; walk_at "f"; walk_at "z"; walk_at "z") | ((with_reducible refine' WE.bitLength ?_ ?_); rotate_left; (intro _; rfl)) | ((with_reducible refine' WE.cmp ?_ ?_); walk_at "z") | with_reducible refine' WE.unop ?_ | with_reducible refine' WE.and ?_ | with_reducible refine' WE.ifexp ?_ | with_reducible refine' WE.tuple ?_ | with_reducible refine' WE.list ?_ | with_reducible refine' WE.bool ?_ | with_reducible refine' WE.none ?_)
  | ((fail_if_success fail_if_success with_reducible refine' gX ?_); first | ((with_reducible refine' WX.assign ?_ ?_ ?_); walk_at "z"; walk_at "z"; (first | with_reducible refine' WL.list ?_ | ((with_reducible refine' WL.addRep ?_ ?_); walk_at "z") | ((with_reducible refine' WL.rep ?_ ?_); walk_at "z") | with_reducible refine' WL.val ?_)) | ((with_reducible refine' WX.assignS ?_ ?_ (WL.val ?_)); walk_at "z"; (intro env he; cases env; dsimp only at he; subst he; rfl)) | ((with_reducible refine' WX.aug ?_ ?_ ?_); rotate_left; walk_at "z"; walk_at "z") | with_reducible refine' WX.ifs ?_ | with_reducible refine' WX.ret ?_ | with_reducible refine' WX.brk ?_ | ((with_reducible refine' WX.append ?_ ?_ ?_ ?_ (fun a => ?_)); rotate_left 2; walk_at "z"; walk_at "z"; rotate_left; (intro _; rfl)) | ((with_reducible refine' WX.extend ?_ ?_ ?_ (fun a => ?_)); rotate_left 2; walk_at "z"; walk_at "z"; rotate_left; (intro _; rfl)) | ((with_reducible refine' WX.exprE ?_ ?_); walk_at "z") | ((with_reducible refine' WX.setItem ?_ ?_); walk_at "z") | ((with_reducible refine' WX.pair ?_ ?_ ?_ ?_); walk_at "z"; walk_at "z"; (intro env he; cases env; dsimp only at he; subst he; rfl)) | ((with_reducible refine' WX.triple ?_ ?_ ?_ ?_ ?_); walk_at "z"; walk_at "z"; walk_at "z"; (intro env he; cases env; dsimp only at he; subst he; rfl)) | ((with_reducible refine' WX.unpack2 ?_ ?_ ?_ ?_ ?_); walk_at "z"; walk_at "z"; walk_at "z"; walk_at "z") | ((with_reducible refine' WX.unpack3 ?_ ?_ ?_ ?_ ?_ ?_); walk_at "z"; walk_at "z"; walk_at "z"; walk_at "z"; walk_at "z") | ((with_reducible refine' WX.forD ?_ ?_); walk_at "z"; (first | ((with_reducible refine' WI.rD ?_ ?_ ?_ ?_ ?_); rotate_left; walk_at "z"; walk_at "z"; walk_at "z"; walk_at "z") | ((with_reducible refine' WI.r2 ?_ ?_ ?_ ?_ ?_); rotate_left; walk_at "z"; walk_at "z"; walk_at "z"; walk_at "z") | ((with_reducible refine' WI.r1 ?_ ?_ ?_ ?_ ?_); rotate_left; walk_at "z"; walk_at "z"; walk_at "z"; walk_at "z") | ((with_reducible refine' WI.en ?_ ?_ ?_ ?_ ?_ ?_); rotate_left; walk_at "z"; walk_at "z"; walk_at "z"; walk_at "z"; walk_at "z") | ((with_reducible refine' WI.zi ?_ ?_ ?_ ?_ ?_ ?_); rotate_left; walk_at "z"; walk_at "z"; walk_at "z"; walk_at "z"; walk_at "z") | ((with_reducible refine' WI.listP ?_ ?_ ?_); walk_at "z"; walk_at "z") | ((with_reducible refine' WI.list ?_ ?_); walk_at "z"))))
  | ((fail_if_success fail_if_success with_reducible refine' gOp ?_); first | (with_reducible first | (refine op_subN ?hb ?_; (case hb => omega)) | (refine op_mulNR ?hb ?_; (case hb => assumption)) | (refine op_mulNB ?hb ?_; (case hb => assumption)) | refine op_addN ?_ | refine op_iaddN ?_ | refine op_shl1 ?_ ?_ | refine op_shlN ?_ ?_ ?_ | refine op_shrN ?_ | refine op_ishrN ?_ | refine op_andM ?_ | refine op_orN ?_ ?_ | refine op_orN' ?_ ?_ | refine op_iorN ?_ ?_ | refine op_modN ?_ ?_ | refine op_imodN ?_ ?_ | refine op_divN ?_ ?_ ?_ | refine op_mulN ?_ ?_ | refine op_powN ?_ ?_ | refine op_add ?_ | refine op_sub ?_ | refine op_mul ?_ ?_ | refine op_floordiv ?_ ?_ ?_ | refine op_mod ?_ ?_ | refine op_and ?_ | refine op_or ?_ | refine op_shl ?_ ?_ ?_ ?_ | refine op_shr ?_ ?_ | refine op_pow ?_ ?_ ?_ ?_ | refine op_iadd ?_ | refine op_isub ?_ | refine op_imod ?_ ?_ | refine op_ior ?_ | refine op_ishr ?_ ?_ | refine op_eq ?_ | refine op_ne ?_ | refine op_lt ?_ | refine op_le ?_ | refine op_gt ?_ | refine op_ge ?_ | refine op_neg ?_ | refine op_not ?_ | refine op_eqb ?_ | refine op_neb ?_ | refine op_lenN ?_ ?_ | refine op_len ?_ ?_ | refine op_min ?_ | refine op_abs ?_ | refine op_intT ?_ | refine op_neNN ?_ | refine op_neN0 ?_ | refine op_addL ?_ ?_ | refine op_isN ?_ | refine op_isL ?_))
  | with_reducible refine' WA.nil ?_
  | ((with_reducible refine' WA.cons ?_ ?_); walk_at "z")
  | ((with_reducible refine' WB.cmp ?_ ?_); walk_at "z")
  | with_reducible refine' WB.and ?_
  | ((with_reducible refine' WB.plain ?_ ?_); walk_at "z")
  | with_reducible refine' WXs.cons ?_
  | with_reducible refine' WXs.nil ?_
  | with_reducible refine' WP.none ?_
  | with_reducible refine' WP.some ?_
  | with_reducible refine' WSl.nil ?_
  | ((with_reducible refine' WSl.cons ?_ ?_); walk_at "z"; (first | with_reducible refine' WL.list ?_ | ((with_reducible refine' WL.rep ?_ ?_); walk_at "z") | with_reducible refine' WL.val ?_))
  | (with_reducible first | refine' KRet.use ?_ | refine' KThen.next ?_ | refine' KThen.ret ?_ | refine' KThen.brk ?_ | refine' TurnF.ret ?_ | refine' TurnF.brk ?_ | refine' Turn.ret ?_ | refine' Turn.brk ?_ | refine' KB1.mk ?_ | refine' exItemN ?_ ?_ ?_ | refine' exItemR ?_ ?_ ?_ | refine' exItemR0 ?_ ?_ ?_ | refine' exItemR1 ?_ ?_ ?_ | refine' exItemR2 ?_ ?_ ?_ | refine' exItemRM ?_ ?_ ?_ | refine' exItemRI ?_ ?_ ?_ ?_ | refine' exItemM ?_ ?_ ?_ | refine' KAddRep.mk ?_ ?_ ?_ | refine' KRep.mk ?_ ?_ ?_ | refine' exItem0 ?_ | refine' exItem1 ?_ | refine' exItem2 ?_ | refine' exItem ?_ ?_ ?_ ?_ | refine' KEnd.ret ?_ | refine' KInt.mk ?_ | refine' KIdx.mk ?_ | refine' KSliceN.mk ?_ ?_ | refine' KSlice.mk ?_ ?_ | refine' KOfL.own ?_ | refine' KRg1.mk ?_ ?_ ?_ | refine' KRg2.mk ?_ ?_ ?_ ?_ ?_ | refine' KRgD.mk ?_ ?_ ?_ | refine' KLV2.mk ?_ | refine' KLV3.mk ?_ | refine' KLV4.mk ?_ | refine' KT2.mk ?_ | refine' KT3.mk ?_ | refine' KEnum.mk ?_ | refine' KL.mk ?_ | refine' KZip.mk ?_ ?_ | refine' ItemOf.own ?_ ?_ ?_ ?_ | refine' ItemOf.own0 ?_ ?_ | refine' ItemOf.own1 ?_ ?_ | refine' ItemOf.ownR0 ?_ ?_ ?_ | refine' ItemOf.ownR1 ?_ ?_ ?_ | refine' ItemOf.ownR2 ?_ ?_ ?_ | refine' ItemOf.ownR ?_ ?_ ?_ ?_ | refine' KRevN.mk ?_ ?_ | refine' andRfl ?_ | refine' Idx.mk (fun a => ?_))
  | ((with_reducible refine' KSetI.mk _ _ ?_ ?_); rotate_left 2; walk_at "z")
  | ((with_reducible refine' Imp.use ?_ ?_); rotate_left; assumption)
  | (with_reducible refine' Imp.all (fun T hT => ?_))
  | ((with_reducible refine' And.intro (fun hc => ?_) (fun hc => ?_)) <;> (try simp only [decide_eq_true_eq, decide_eq_false_iff_not, Bool.and_eq_true, beq_iff_eq, bne_iff_ne, beq_eq_false_iff_ne, bne_eq_false_iff_eq, Bool.not_eq_true', Bool.not_eq_false', Bool.not_eq_eq_eq_not, Bool.not_true, Bool.not_false, Bool.false_eq_true, Bool.true_eq_false, Int.not_lt, Int.not_le, reduceCtorEq] at hc))
  | (with_reducible refine And.intro ?_ ?_)))
local macro_rules | `(tactic| walk_at "f") => `(tactic| (with_reducible first | exact Facts.t4 ‹_› | exact Facts.t5 ‹_› | exact Facts.t6 ‹_› | exact Facts.t7 ‹_› | exact Facts.t8 ‹_› | exact Facts.t9 ‹_› | exact Facts.t10 ‹_› | exact Facts.t11 ‹_› | exact Facts.t13 ‹_› | exact Facts.t14 ‹_› | exact Facts.t15 ‹_› | exact Facts.t16 ‹_› | exact Facts.t17 ‹_› | exact Facts.t18 ‹_› | exact Facts.t19 ‹_› | exact Facts.t20 ‹_› | exact Facts.t22 ‹_› | exact Facts.t24 ‹_› | exact Facts.t25 ‹_› | exact Facts.t29 ‹_› | exact Facts.t30 ‹_› | exact Facts.t31 ‹_› | exact Facts.t32 ‹_› | exact Facts.t33 ‹_› | exact Facts.t35 ‹_› | exact Facts.t36 ‹_› | exact Facts.t37 ‹_› | exact Facts.t38 ‹_› | exact Facts.t39 ‹_› | exact Facts.t40 ‹_› | exact Facts.t41 ‹_› | exact Facts.t43 ‹_› | exact Facts.t44 ‹_› | exact Facts.t45 ‹_› | exact Facts.t46 ‹_› | exact Facts.t47 ‹_› | exact Facts.t48 ‹_› | exact Facts.t49 ‹_› | exact Facts.t50 ‹_› | exact Facts.t51 ‹_›))
local macro_rules | `(tactic| walk_at "t") => `(tactic| (with_reducible first | exact Facts.len ‹_› | exact Facts.min ‹_› | exact Facts.abs ‹_› | exact Facts.range ‹_› | exact Facts.enumerate ‹_› | exact Facts.zip ‹_› | exact Facts.int ‹_› | exact Facts.nought ‹_› | exact Facts.unit ‹_›))
local macro_rules | `(tactic| walk_at "m") => `(tactic| (with_reducible first | exact Facts.t38 ‹_› | exact Facts.t39 ‹_› | exact Facts.t40 ‹_› | exact Facts.t30 ‹_› | exact Facts.t43 ‹_›))
local macro_rules | `(tactic| walk_at "ws") => `(tactic| repeat' (walk_at "s"))
local macro_rules | `(tactic| walk_at "wi") => `(tactic| first | ((with_reducible refine' WI.rD ?_ ?_ ?_ ?_ ?_); rotate_left; walk_at "z"; walk_at "z"; walk_at "z"; walk_at "z") | ((with_reducible refine' WI.r2 ?_ ?_ ?_ ?_ ?_); rotate_left; walk_at "z"; walk_at "z"; walk_at "z"; walk_at "z") | ((with_reducible refine' WI.r1 ?_ ?_ ?_ ?_ ?_); rotate_left; walk_at "z"; walk_at "z"; walk_at "z"; walk_at "z") | ((with_reducible refine' WI.en ?_ ?_ ?_ ?_ ?_ ?_); rotate_left; walk_at "z"; walk_at "z"; walk_at "z"; walk_at "z"; walk_at "z") | ((with_reducible refine' WI.zi ?_ ?_ ?_ ?_ ?_ ?_); rotate_left; walk_at "z"; walk_at "z"; walk_at "z"; walk_at "z"; walk_at "z") | ((with_reducible refine' WI.listP ?_ ?_ ?_); walk_at "z"; walk_at "z") | ((with_reducible refine' WI.list ?_ ?_); walk_at "z"))
local macro_rules | `(tactic| walk_at "subs") => `(tactic| repeat (first | exact Sub.nil | refine Sub.cons rfl ?_))
local macro_rules | `(tactic| walk_at "caps") => `(tactic| exact caps rfl)
local macro_rules | `(tactic| walk_at "nm") => `(tactic| first | omega | (simp only [sizeLine_is, N_len, LR_len, List.length_cons, List.length_nil] at *; omega) | decide | (simp; done))
local macro_rules | `(tactic| walk_at "num") => `(tactic| first | omega | (simp only [sizeLine_is, N_len]; omega) | (simp only [sizeLine_is, N_len, List.length_nil] at *; omega))

section
section
variable {prog : Program} {w : World} {hT : Heap} {os0 : OsState} {fa : Nat → Addr}

theorem normal_walk (P : Facts hT fa) (xs : List Nat) (hl : xs.length ≤ 2 ^ 24) (k : Nat) :
    Op prog w hT os0 (k + 1) [N xs] (callT (.ref (fa 4))) fun d => d = N (norm xs) := by
  refine fn_opF (P.fn 4 (by decide)).1 P.nolimit (xs := ["a"]) (fun pm cd doc vs h => len1 (vs := vs) h fun _ => rfl) fun Q hQ => ?_
  refine W.sub [("a", LV.val (N xs))] (by walk_at "subs") (WXs.cons ?_)
  walk_at "ws"
  · (first | exact nq16 hl | omega)
  refine W.sub [("end", LV.val (.int xs.length)), ("a", LV.val (N xs))] (by walk_at "subs") ?_
  refine WX.whileD (fun n σ => ∃ e : Nat, σ = ([("end", LV.val (.int e)), ("a", LV.val (N xs))] : St) ∧ n = e ∧ e ≤ xs.length ∧ norm (xs.take e) = norm xs) xs.length ⟨_, rfl, rfl, Nat.le_refl _, by simp⟩ ?_
  rintro n σ ⟨e, rfl, rfl, he, hn⟩
  walk_at "ws"
  all_goals try (first | (with_reducible first | exact nq144 hl | exact nq291 ‹_› | exact nq292 he | exact nq16 hl) | walk_at "num")
  · rw [pySlice_to he, show n = 0 by (first | exact nq28 ‹_› | omega)]
    rw [show n = 0 by (first | exact nq28 ‹_› | omega)] at hn; rw [← hn]; rfl
  · rename_i h1 h2
    refine ⟨n - 1, [("end", LV.val (.int ((n : Int) - 1))), ("a", LV.val (N xs))], by (first | exact nq293 h1 | omega), by walk_at "subs", n - 1, by congr 4; (first | exact nq294 h1 | omega), rfl, by (first | exact nq295 he | omega), ?_⟩
    have e : n = (n - 1) + 1 := by (first | exact nq145 h1 | omega)
    rw [← hn, e, take_snoc (by (first | exact nq146 he h1 | omega))]
    rw [show ((n : Int) - 1).toNat = n - 1 by (first | exact nq102 | omega)] at h2
    rw [show xs.getD (n - 1) 0 = 0 by (first | exact nq147 h2 | omega), norm_step0]; simp
  · rename_i h1 h2
    rw [pySlice_to he, ← hn]
    have e : n = (n - 1) + 1 := by (first | exact nq145 h1 | omega)
    rw [e, take_snoc (by (first | exact nq146 he h1 | omega))]
    rw [show ((n : Int) - 1).toNat = n - 1 by (first | exact nq102 | omega)] at h2
    rw [norm_stop _ (by (first | exact nq296 h2 | omega))]
end

end

section
section
variable {prog : Program} {w : World} {hT : Heap} {os0 : OsState} {fa : Nat → Addr}

/-- -1, 0, 1 -/
noncomputable def cmpN (a b : Nat) : Int := if a < b then -1 else if b < a then 1 else 0

theorem val_top {W i : Nat} (hW : 2 ≤ W) {xs ys : List Nat} (hx : Dig W xs) (hy : Dig W ys) (hl : xs.length = ys.length) (hi : i < xs.length) (hd : xs.drop (i + 1) = ys.drop (i + 1)) (h : xs.getD i 0 < ys.getD i 0) : val W xs < val W ys := by
  have e1 : val W xs = val W (xs.take (i + 1)) + W ^ (i + 1) * val W (xs.drop (i + 1)) := by
    conv => lhs; rw [← List.take_append_drop (i + 1) xs]
    rw [val_app]; congr 3; simp; (first | exact nq681 hi | omega)
  have e2 : val W ys = val W (ys.take (i + 1)) + W ^ (i + 1) * val W (ys.drop (i + 1)) := by
    conv => lhs; rw [← List.take_append_drop (i + 1) ys]
    rw [val_app]; congr 3; simp; (first | exact nq682 hl hi | omega)
  rw [e1, e2, hd, val_take hi, val_take (by (first | exact nq683 hl hi | omega))]
  have l1 := val_lt hW (hx.take i)
  rw [List.length_take, Nat.min_eq_left (by (first | exact nq32 hi | omega))] at l1
  have : W ^ i * (xs.getD i 0 + 1) ≤ W ^ i * ys.getD i 0 := Nat.mul_le_mul_left _ h
  rw [Nat.mul_add] at this
  (first | exact nq684 l1 this | omega)


theorem compare_walk (P : Facts hT fa) {U : Nat} (hW : 2 ≤ U) (m n : Nat) (hl : (lim U m).length ≤ 2 ^ 24) (hl2 : (lim U n).length ≤ 2 ^ 24) (k : Nat) :
    Op prog w hT os0 (k + 1) [N (lim U m), N (lim U n)] (callT (.ref (fa 5))) fun d => d = .int (cmpN m n) := by
  refine fn_opF (P.fn 5 (by decide)).1 P.nolimit (xs := ["a", "b"]) (fun pm cd doc vs h => len2 (vs := vs) h fun _ _ => rfl) fun Q hQ => ?_
  refine W.sub [("a", LV.val (N (lim U m))), ("b", LV.val (N (lim U n)))] (by walk_at "subs") (WXs.cons ?_)
  generalize hA : lim U m = A at *
  generalize hB : lim U n = B at *
  have dA : Dig U A := hA ▸ lim_dig hW m
  have dB : Dig U B := hB ▸ lim_dig hW n
  have vA : val U A = m := hA ▸ val_lim hW m
  have vB : val U B = n := hB ▸ val_lim hW n
  have shorter : ∀ {m n : Nat}, (lim U m).length < (lim U n).length → m < n := fun {m n} h => by
    have h1 := lim_lt hW (n := m)
    have h0 : n ≠ 0 := by rintro rfl; rw [lim_zero] at h; simp at h
    have h2 := lim_ge hW h0
    have := Nat.pow_le_pow_right (show 0 < U by (first | exact nq1 hW | omega)) (show (lim U m).length ≤ (lim U n).length - 1 by (first | exact nq35 h | omega))
    (first | exact nq685 h1 h2 this | omega)
  walk_at "ws"
  all_goals try (first | (with_reducible first | exact nq16 hl | exact nq16 hl2 | exact nq241 | exact nq686 hl) | walk_at "num")
  · rename_i h1 h2
    have := shorter (m := m) (n := n) (by rw [hA, hB]; (first | exact nq67 h2 | omega))
    congr 1; unfold cmpN; rw [if_pos this]
  · rename_i h1 h2
    have := shorter (m := n) (n := m) (by rw [hA, hB]; (first | exact nq242 h1 h2 | omega))
    congr 1; unfold cmpN; rw [if_neg (by (first | exact nq687 this | omega)), if_pos this]
  · refine ⟨fun i σ => σ = ([("a", LV.val (N A)), ("b", LV.val (N B))] : St) ∧ A.drop (A.length - i) = B.drop (A.length - i), ?_, ?_, ?_⟩
    · exact ⟨rfl, by rw [Nat.sub_zero, List.drop_length, show A.length = B.length by (first | exact nq56 ‹_› | omega), List.drop_length]⟩
    · rintro i σ hi ⟨rfl, hd⟩
      try dsimp only
      have e : ((A.length : Int) - 1 - i).toNat = A.length - 1 - i := by (first | exact nq688 | omega)
      have top : ∀ {X Y : List Nat}, Dig U X → Dig U Y → X.length = Y.length → i < X.length → X.drop (X.length - i) = Y.drop (X.length - i) → X.getD (X.length - 1 - i) 0 < Y.getD (X.length - 1 - i) 0 → val U X < val U Y := fun {X Y} hx hy hl hi hd h =>
        val_top hW hx hy hl (show X.length - 1 - i < X.length by (first | exact nq689 hi | omega)) (by rw [show X.length - 1 - i + 1 = X.length - i by (first | exact nq690 hi | omega)]; exact hd) h
      walk_at "ws"
      all_goals try (first | (with_reducible first | exact nq96 hi | exact nq243 | exact nq16 hl | exact nq244 ‹_› | exact nq16 hl2) | walk_at "num")
      · rename_i h1 h2
        rw [e] at h1 h2
        have := top dA dB (by (first | exact nq56 ‹_› | omega)) (by (first | exact nq691 hi | omega)) hd (by (first | exact nq67 h2 | omega))
        congr 1; unfold cmpN; rw [if_pos (by (first | exact nq692 vA vB this | omega))]
      · rename_i h1 h2
        rw [e] at h1 h2
        have l : A.length = B.length := by (first | exact nq56 ‹_› | omega)
        rw [l] at h1 h2
        have := top dB dA (by (first | exact nq693 ‹_› | omega)) (by (first | exact nq694 ‹_› hi | omega)) (by rw [← l]; exact hd.symm) (by (first | exact nq242 h1 h2 | omega))
        congr 1; unfold cmpN; rw [if_neg (by (first | exact nq695 vA vB this | omega)), if_pos (by (first | exact nq696 vA vB this | omega))]
      · rename_i h1
        rw [e] at h1
        refine TurnF.next [("a", LV.val (N A)), ("b", LV.val (N B))] (by walk_at "subs") ⟨rfl, ?_⟩
        rw [show A.length - (i + 1) = A.length - 1 - i by (first | exact nq697 | omega), drop_getD (by (first | exact nq245 hi | omega)), drop_getD (xs := B) (by (first | exact nq698 ‹_› hi | omega)), show A.length - 1 - i + 1 = A.length - i by (first | exact nq699 hi | omega), hd]
        congr 1; (first | exact nq56 h1 | omega)
    · rintro σ ⟨rfl, hd⟩
      try dsimp only
      walk_at "ws"
      have : A = B := by rw [show A.length - ((A.length : Int) - 1 + 1).toNat = 0 by (first | exact nq700 | omega)] at hd; simpa using hd
      have : m = n := by rw [← vA, ← vB, this]
      congr 1; unfold cmpN; rw [if_neg (by (first | exact nq701 this | omega)), if_neg (by (first | exact nq702 this | omega))]
end

end

section
theorem carry_step {U : Nat} {F : List Nat} {i x : Nat} (hF : F.length = i) : val U (F ++ [x % U]) + U ^ (i + 1) * (x / U) = val U F + U ^ i * x := by
  rw [val_snoc, hF, Nat.pow_succ, Nat.mul_assoc, Nat.add_assoc, ← Nat.mul_add, Nat.mod_add_div]
theorem two_le {U wd : Nat} (hU : U = 2 ^ wd) (h1 : 1 ≤ wd) : 2 ≤ U := by rw [hU]; exact Nat.le_trans (by decide) (Nat.pow_le_pow_right (by decide) h1)
theorem take_all {α : Type} (xs : List α) : xs.take xs.length = xs := by simp

section
variable {prog : Program} {w : World} {hT : Heap} {os0 : OsState} {fa : Nat → Addr}

theorem add_rest (P : Facts hT fa) {U wd : Nat} (hU : U = 2 ^ wd) (h1 : 1 ≤ wd) (h2 : wd ≤ 64) {A B : List Nat} (hl : A.length < 2 ^ 24) (hlen : B.length ≤ A.length) (dA : Dig U A) (dB : Dig U B) (cA : A ≠ [] → U ^ (A.length - 1) ≤ val U A) (k : Nat) :
    WXs prog w hT os0 k (fnScope 6) (fnBody 6).tail [("a", LV.val (N A)), ("b", LV.val (N B)), ("w", LV.val (.int (wd : Int)))] (KEnd fun r _ => r = N (lim U (val U A + val U B))) := by
  have hW := two_le hU h1
  refine WXs.fold fun Q hQ => ?_
  refine WXs.cons ?_
  walk_at "ws"
  all_goals try first | (first | (with_reducible first | exact nq256 h2 | exact nq66 hl hlen | exact nq3 | exact nq257 hl hlen) | omega) | exact Nat.zero_le _
  refine ⟨fun i σ => ∃ F c, σ = ([("found", LV.own none (NL F)), ("carry", LV.val (.int (c : Nat))), ("mask", LV.val (.int (((2 ^ wd : Nat) : Int) - 1))), ("a", LV.val (N A)), ("b", LV.val (N B)), ("w", LV.val (.int (wd : Int)))] : St) ∧
    F.length = i ∧ Dig U F ∧ c ≤ 1 ∧ val U F + U ^ i * c = val U (A.take i) + val U (B.take i), ⟨[], 0, rfl, rfl, fun _ h => (by cases h), by (first | exact nq33 | omega), by simp [val]⟩, ?_, ?_⟩
  · rintro i σ hi ⟨F, c, rfl, hF, dF, hc, hv⟩
    try dsimp only
    walk_at "ws"
    all_goals try (first | (with_reducible first | exact nq258 hlen hi | exact nq10 hl | exact nq140 hi | exact nq66 hl hlen | exact nq741 hl hlen hi hF) | walk_at "num")
    have tA : A.getD i 0 < U := dA.getD (by (first | exact nq1 hW | omega)) i
    have tB : B.getD i 0 < U := dB.getD (by (first | exact nq1 hW | omega)) i
    rw [NL_snoc rfl]
    generalize hx : c + (A.getD i 0 + B.getD i 0) = x
    refine TurnF.next _ (by walk_at "subs") ⟨F ++ [x % 2 ^ wd], x / 2 ^ wd, rfl, by simp [hF], dF.app (Dig.one (by rw [← hU]; exact Nat.mod_lt _ (by (first | exact nq1 hW | omega)))), ?_, ?_⟩
    · rw [← hU]; have : x < 2 * U := by (first | exact nq742 hc tA tB hx | omega)
      have := (Nat.div_lt_iff_lt_mul (show 0 < U by (first | exact nq1 hW | omega))).mpr this; (first | exact nq259 this | omega)
    · rw [← hU, carry_step hF, val_take (show i < A.length by (first | exact nq258 hlen hi | omega)), val_take (show i < B.length by (first | exact nq140 hi | omega)), ← hx, Nat.mul_add, Nat.mul_add]; (first | exact nq743 hv | omega)
  · rintro σ ⟨F, c, rfl, hF, dF, hc, hv⟩
    try dsimp only
    rw [Int.toNat_natCast] at hF hv
    walk_at "ws"
    all_goals try first | (first | (with_reducible first | exact nq66 hl hlen | exact nq10 hl | exact nq3 | exact nq257 hl hlen | exact nq260 hl) | omega) | exact Nat.zero_le _
    refine ⟨fun i σ => ∃ F c, σ = ([("found", LV.own none (NL F)), ("carry", LV.val (.int (c : Nat))), ("mask", LV.val (.int (((2 ^ wd : Nat) : Int) - 1))), ("a", LV.val (N A)), ("b", LV.val (N B)), ("w", LV.val (.int (wd : Int)))] : St) ∧
      F.length = B.length + i ∧ Dig U F ∧ c ≤ 1 ∧ val U F + U ^ (B.length + i) * c = val U (A.take (B.length + i)) + val U B, ⟨F, c, rfl, by (first | exact nq744 hF | omega), dF, hc, by rw [take_all] at hv; simpa using hv⟩, ?_, ?_⟩
    · rintro i σ hi ⟨F, c, rfl, hF, dF, hc, hv⟩
      try dsimp only
      rw [show ((B.length : Int) + i) = ((B.length + i : Nat) : Int) by (first | exact nq195 | omega)]
      walk_at "ws"
      all_goals try (first | (with_reducible first | exact nq261 hi | exact nq10 hl | exact nq745 hl hi hF) | walk_at "num")
      have tA : A.getD (B.length + i) 0 < U := dA.getD (by (first | exact nq1 hW | omega)) _
      rw [NL_snoc rfl]
      generalize hx : c + A.getD (B.length + i) 0 = x
      refine TurnF.next _ (by walk_at "subs") ⟨F ++ [x % 2 ^ wd], x / 2 ^ wd, rfl, by simp [hF]; (first | exact nq746 | omega), dF.app (Dig.one (by rw [← hU]; exact Nat.mod_lt _ (by (first | exact nq1 hW | omega)))), ?_, ?_⟩
      · rw [← hU]; have : x < 2 * U := by (first | exact nq747 hc tA hx | omega)
        have := (Nat.div_lt_iff_lt_mul (show 0 < U by (first | exact nq1 hW | omega))).mpr this; (first | exact nq259 this | omega)
      · rw [← hU, show B.length + (i + 1) = B.length + i + 1 by (first | exact nq207 | omega), carry_step hF, val_take (show B.length + i < A.length by (first | exact nq261 hi | omega)), ← hx, Nat.mul_add]; (first | exact nq748 hv | omega)
    · rintro σ ⟨F, c, rfl, hF, dF, hc, hv⟩
      try dsimp only
      rw [show B.length + ((A.length : Int) - B.length).toNat = A.length by (first | exact nq262 hlen | omega)] at hF hv
      rw [take_all] at hv
      walk_at "ws"
      all_goals try (first | exact nq224 hl hF | walk_at "num")
      · rename_i hc2 _
        have hc1 : c = 1 := by (first | exact nq749 hc hc2 | omega)
        subst hc1
        have e : val U (F ++ [1]) = val U A + val U B := by rw [val_snoc, hF]; exact hv
        have := lim_canon hW (xs := F ++ [1]) (dF.app (Dig.one (by (first | exact nq24 hW | omega)))) (fun _ => by rw [val_snoc]; simp)
        rw [e] at this
        rw [← this]; simp [N, NL]
      · rename_i hc2
        have hc0 : c = 0 := by (first | exact nq28 hc2 | omega)
        subst hc0
        have e : val U F = val U A + val U B := by simpa using hv
        have := lim_canon hW (xs := F) dF (fun ne => by
          have := cA (by rintro rfl; apply ne; exact List.length_eq_zero_iff.mp (by simpa using hF))
          rw [hF, e]; (first | exact nq750 this | omega))
        rw [e] at this
        rw [← this]

theorem add_walk (P : Facts hT fa) {U wd : Nat} (hU : U = 2 ^ wd) (h1 : 1 ≤ wd) (h2 : wd ≤ 64) (m n : Nat) (hm : (lim U m).length < 2 ^ 24) (hn : (lim U n).length < 2 ^ 24) (k : Nat) :
    Op prog w hT os0 (k + 1) [N (lim U m), N (lim U n), .int (wd : Int)] (callT (.ref (fa 6))) fun d => d = N (lim U (m + n)) := by
  have hW := two_le hU h1
  refine fn_opF (P.fn 6 (by decide)).1 P.nolimit (xs := ["a", "b", "w"]) (fun pm cd doc vs h => len3 (vs := vs) h fun _ _ _ => rfl) fun Q hQ => ?_
  refine W.sub [("a", LV.val (N (lim U m))), ("b", LV.val (N (lim U n))), ("w", LV.val (.int (wd : Int)))] (by walk_at "subs") ?_
  have cA : ∀ {n : Nat}, lim U n ≠ [] → U ^ ((lim U n).length - 1) ≤ val U (lim U n) := fun {n} ne => by
    rw [val_lim hW]; exact lim_ge hW (by rintro rfl; exact ne lim_zero)
  refine WXs.mid (fun σ => ∃ A B : List Nat, σ = ([("a", LV.val (N A)), ("b", LV.val (N B)), ("w", LV.val (.int (wd : Int)))] : St) ∧ A.length < 2 ^ 24 ∧ B.length ≤ A.length ∧ Dig U A ∧ Dig U B ∧ (A ≠ [] → U ^ (A.length - 1) ≤ val U A) ∧ val U A + val U B = m + n) ?_ ?_
  · walk_at "ws"
    all_goals try (first | (with_reducible first | exact nq10 hm | exact nq10 hn) | walk_at "num")
    · exact ⟨_, by walk_at "subs", lim U n, lim U m, rfl, by (first | exact nq263 hn | omega), by (first | exact nq751 ‹_› | omega), lim_dig hW _, lim_dig hW _, cA, by rw [val_lim hW, val_lim hW]; (first | exact nq752 | omega)⟩
    · exact ⟨_, by walk_at "subs", lim U m, lim U n, rfl, by (first | exact nq263 hm | omega), by (first | exact nq141 ‹_› | omega), lim_dig hW _, lim_dig hW _, cA, by rw [val_lim hW, val_lim hW]⟩
  · rintro σ ⟨A, B, rfl, a1, a2, a3, a4, a5, a6⟩
    have := add_rest (prog := prog) (w := w) (os0 := os0) P hU h1 h2 a1 a2 a3 a4 a5 k
    rw [a6] at this
    exact W.mono this hQ
end

end

section
section
variable {prog : Program} {w : World} {hT : Heap} {os0 : OsState} {fa : Nat → Addr}
theorem getD_ge {xs : List Nat} {i : Nat} (h : xs.length ≤ i) : xs.getD i 0 = 0 := by rw [List.getD_eq_getElem?_getD]; simp [h]
theorem val_take' {W : Nat} {xs : List Nat} {i : Nat} : val W (xs.take (i + 1)) = val W (xs.take i) + W ^ i * xs.getD i 0 := by
  by_cases h : i < xs.length
  · exact val_take h
  · rw [getD_ge (by (first | exact nq71 h | omega)), List.take_of_length_le (by (first | exact nq753 h | omega)), List.take_of_length_le (by (first | exact nq71 h | omega))]; simp
theorem len_mono {U : Nat} (hW : 2 ≤ U) {m n : Nat} (h : m ≤ n) : (lim U m).length ≤ (lim U n).length := lim_len hW (Nat.lt_of_le_of_lt h (lim_lt hW))

theorem sub_walk (P : Facts hT fa) {U wd : Nat} (hU : U = 2 ^ wd) (h1 : 1 ≤ wd) (h2 : wd ≤ 64) (m n : Nat) (hm : (lim U m).length < 2 ^ 24) (hle : n ≤ m) (k : Nat) :
    Op prog w hT os0 (k + 2) [N (lim U m), N (lim U n), .int (wd : Int)] (callT (.ref (fa 7))) fun d => d = N (lim U (m - n)) := by
  have hW := two_le hU h1
  have hn := len_mono hW hle
  refine fn_opF (P.fn 7 (by decide)).1 P.nolimit (xs := ["a", "b", "w"]) (fun pm cd doc vs h => len3 (vs := vs) h fun _ _ _ => rfl) fun Q hQ => ?_
  refine W.sub [("a", LV.val (N (lim U m))), ("b", LV.val (N (lim U n))), ("w", LV.val (.int (wd : Int)))] (by walk_at "subs") (WXs.cons ?_)
  walk_at "ws"
  · refine OpAt.eq (compare_walk P hW m n (by (first | exact nq754 hm | omega)) (by (first | exact nq755 hm hn | omega)) 0) (by (first | exact nq12 | omega)) ?_
    walk_at "ws"
    · rename_i hc; exfalso; unfold cmpN at hc; rw [if_neg (by (first | exact nq756 hle | omega))] at hc; split at hc <;> (first | (with_reducible first | exact nq757 hc | exact nq758 hc) | omega)
    all_goals try (first | (with_reducible first | exact nq8 | exact nq256 h2 | exact nq10 hm | exact nq3 | exact nq260 hm) | walk_at "num")
    have dA := lim_dig hW m
    have dB := lim_dig hW n
    have vA := val_lim hW m
    have vB := val_lim hW n
    generalize lim U m = A at *
    generalize lim U n = B at *
    refine ⟨fun i σ => ∃ F c, σ = ([("found", LV.own none (NL F)), ("borrow", LV.val (.int (c : Nat))), ("base", LV.val (.int ((2 ^ wd : Nat) : Int))), ("a", LV.val (N A)), ("b", LV.val (N B)), ("w", LV.val (.int (wd : Int)))] : St) ∧
      F.length = i ∧ Dig U F ∧ c ≤ 1 ∧ val U F + val U (B.take i) = val U (A.take i) + U ^ i * c, ⟨[], 0, rfl, rfl, fun _ h => (by cases h), by (first | exact nq33 | omega), by simp [val]⟩, ?_, ?_⟩
    · rintro i σ hi ⟨F, c, rfl, hF, dF, hc, hv⟩
      try dsimp only
      have tA : A.getD i 0 < U := dA.getD (by (first | exact nq1 hW | omega)) i
      have tB : B.getD i 0 < U := dB.getD (by (first | exact nq1 hW | omega)) i
      have key : ∀ x c' : Nat, x + B.getD i 0 + c = A.getD i 0 + U * c' → x < U → c' ≤ 1 → ∀ σ Q, Sub [("found", LV.own none (NL (F ++ [x]))), ("borrow", LV.val (.int (c' : Nat))), ("base", LV.val (.int ((2 ^ wd : Nat) : Int))), ("a", LV.val (N A)), ("b", LV.val (N B)), ("w", LV.val (.int (wd : Int)))] σ → TurnF Q (fun i σ => ∃ F c, σ = ([("found", LV.own none (NL F)), ("borrow", LV.val (.int (c : Nat))), ("base", LV.val (.int ((2 ^ wd : Nat) : Int))), ("a", LV.val (N A)), ("b", LV.val (N B)), ("w", LV.val (.int (wd : Int)))] : St) ∧
      F.length = i ∧ Dig U F ∧ c ≤ 1 ∧ val U F + val U (B.take i) = val U (A.take i) + U ^ i * c) i .next σ := by
        intro x c' hx hlt hc' σ Q hs
        refine TurnF.next _ hs ⟨F ++ [x], c', rfl, by simp [hF], dF.app (Dig.one hlt), hc', ?_⟩
        rw [val_snoc, hF, val_take', val_take', Nat.pow_succ, Nat.mul_assoc]
        have := congrArg (U ^ i * ·) hx
        simp only [Nat.mul_add] at this
        (first | exact nq759 hv this | omega)
      walk_at "ws"
      all_goals try (first | (with_reducible first | exact nq140 hi | exact nq10 hm | exact nq66 hm hn | exact nq67 ‹_› | exact (nq760 ‹_› ‹_›).elim | exact (nq762 ‹_› ‹_›).elim | exact (nq763 ‹_› ‹_›).elim) | walk_at "num")
      all_goals try (exfalso; omega)
      · exact key (A.getD i 0 + U - c - B.getD i 0) 1 (by (first | exact nq764 hc tB | omega)) (by (first | exact nq765 hW ‹_› | omega)) (by (first | exact nq74 | omega)) _ _ (by rw [← NL_snoc (x := ((A.getD i 0 : Nat) : Int) - c - (B.getD i 0 : Nat) + ((2 ^ wd : Nat) : Int)) (by rw [hU] at *; (first | exact nq766 hc tB | omega))]; walk_at "subs")
      · exact key (A.getD i 0 - c - B.getD i 0) 0 (by (first | exact nq767 ‹_› | omega)) (by (first | exact nq768 tA | omega)) (by (first | exact nq33 | omega)) _ _ (by rw [← NL_snoc (x := ((A.getD i 0 : Nat) : Int) - c - (B.getD i 0 : Nat)) (by (first | exact nq769 ‹_› | omega))]; walk_at "subs")
      · have hB : B.getD i 0 = 0 := getD_ge (by (first | exact nq141 ‹_› | omega))
        exact key (A.getD i 0 + U - c) 1 (by (first | exact nq770 hW hc hB | omega)) (by (first | exact nq771 hW ‹_› | omega)) (by (first | exact nq74 | omega)) _ _ (by rw [← NL_snoc (x := ((A.getD i 0 : Nat) : Int) - c - 0 + ((2 ^ wd : Nat) : Int)) (by rw [hU] at *; (first | exact nq772 hW hc | omega))]; walk_at "subs")
      · have hB : B.getD i 0 = 0 := getD_ge (by (first | exact nq141 ‹_› | omega))
        exact key (A.getD i 0 - c) 0 (by (first | exact nq773 ‹_› hB | omega)) (by (first | exact nq216 tA | omega)) (by (first | exact nq33 | omega)) _ _ (by rw [← NL_snoc (x := ((A.getD i 0 : Nat) : Int) - c - 0) (by (first | exact nq774 ‹_› | omega))]; walk_at "subs")
    · rintro σ ⟨F, c, rfl, hF, dF, hc, hv⟩
      try dsimp only
      rw [Int.toNat_natCast] at hF hv
      rw [take_all, List.take_of_length_le hn] at hv
      walk_at "ws"
      refine OpAt.eq (normal_walk P F (by (first | exact nq132 hm hF | omega)) 0) (by (first | exact nq12 | omega)) ?_
      walk_at "ws"
      rw [norm_lim hW dF]
      have lt := val_lt hW dF
      rw [hF] at lt
      have : c = 0 := by
        rcases Nat.lt_or_ge 0 c with h | h
        · have : c = 1 := by (first | exact nq775 hc h | omega)
          subst this; (first | exact nq776 hle vA vB lt hv | omega)
        · (first | exact nq777 h | omega)
      subst this
      congr 2; simp at hv; (first | exact nq778 vA vB hv | omega)
end

end

section
section
variable {prog : Program} {w : World} {hT : Heap} {os0 : OsState} {fa : Nat → Addr}
theorem divrem_limb_walk (P : Facts hT fa) {U wd : Nat} (hU : U = 2 ^ wd) (h1 : 1 ≤ wd) (h2 : wd ≤ 16) (m l : Nat) (hm : (lim U m).length < 2 ^ 24) (hl0 : 0 < l) (hl : l < U) (k : Nat) :
    Op prog w hT os0 (k + 2) [N (lim U m), .int (l : Int), .int (wd : Int)] (callT (.ref (fa 8))) fun d => d = .tup [N (lim U (m / l)), .int ((m % l : Nat) : Int)] := by
  have hW := two_le hU h1
  have hU2 := U_le hU h2
  refine fn_opF (P.fn 8 (by decide)).1 P.nolimit (xs := ["a", "limb", "w"]) (fun pm cd doc vs h => len3 (vs := vs) h fun _ _ _ => rfl) fun Q hQ => ?_
  refine W.sub [("a", LV.val (N (lim U m))), ("limb", LV.val (.int (l : Int))), ("w", LV.val (.int (wd : Int)))] (by walk_at "subs") (WXs.cons ?_)
  have dA := lim_dig hW m
  have vA := val_lim hW m
  generalize lim U m = A at *
  walk_at "ws"
  · exfalso; (first | exact nq779 hl0 ‹_› | omega)
  all_goals try (first | (with_reducible first | exact nq10 hm | exact nq3 | exact nq780 hm | exact nq241 | exact nq781 hm) | walk_at "num")
  refine ⟨fun i σ => ∃ G r, σ = ([("found", LV.own none (NL (List.replicate (A.length - i) 0 ++ G))), ("rest", LV.val (.int (r : Nat))), ("a", LV.val (N A)), ("limb", LV.val (.int (l : Nat))), ("w", LV.val (.int (wd : Int)))] : St) ∧
      G.length = i ∧ Dig U G ∧ r < l ∧ val U (A.drop (A.length - i)) = val U G * l + r, ⟨[], 0, ?_, rfl, fun _ h => (by cases h), by (first | exact nq86 hl0 | omega), by simp [val]⟩, ?_, ?_⟩
  · simp [NL]
  · rintro i σ hi ⟨G, r, rfl, hG, dG, hr, hv⟩
    try dsimp only
    rw [show ((A.length : Int) - 1 - i) = ((A.length - 1 - i : Nat) : Int) by (first | exact nq782 hi | omega)]
    have tA : A.getD (A.length - 1 - i) 0 < U := dA.getD (by (first | exact nq58 hl | omega)) _
    walk_at "ws"
    all_goals try (first | (with_reducible first | exact nq15 h2 | exact nq783 hl hU2 hr | exact nq245 hi | exact nq10 hm | exact nq125 hU tA | exact nq86 hl0 | exact nq211 hl hU2 | exact nq784 | exact nq785 hm) | walk_at "num")
    · rw [N_len]; simp; (first | exact nq786 hi | omega)
    · rw [NL_set rfl, Int.toNat_natCast, show A.length - i = (A.length - 1 - i) + 1 by (first | exact nq787 hi | omega), rep_set, show A.length - 1 - i = A.length - (i + 1) by (first | exact nq134 | omega)]
      rw [show A.length - 1 - i = A.length - (i + 1) by (first | exact nq134 | omega)] at tA
      have hv2 := val_drop (W := U) (xs := A) (i := A.length - (i + 1)) (by (first | exact nq788 hi | omega))
      rw [show A.length - (i + 1) + 1 = A.length - i by (first | exact nq789 hi | omega), hv] at hv2
      generalize A.getD (A.length - (i + 1)) 0 = x at *
      rw [← hU]
      have e := Nat.div_add_mod (r * U + x) l
      refine TurnF.next _ (by walk_at "subs") ⟨(r * U + x) / l :: G, (r * U + x) % l, rfl, by simp [hG], ?_, Nat.mod_lt _ hl0, ?_⟩
      · intro y hy
        rcases List.mem_cons.mp hy with rfl | hy
        · rw [Nat.div_lt_iff_lt_mul hl0]
          have : (r + 1) * U ≤ l * U := Nat.mul_le_mul_right _ hr
          rw [Nat.add_mul] at this
          rw [Nat.mul_comm U l]; (first | exact nq790 tA this | omega)
        · exact dG y hy
      · rw [hv2]
        show x + U * (val U G * l + r) = ((r * U + x) / l + U * val U G) * l + (r * U + x) % l
        rw [Nat.add_mul, Nat.mul_add, Nat.mul_comm ((r * U + x) / l) l, Nat.mul_comm U r, Nat.mul_assoc]
        (first | exact nq791 e | omega)
  · rintro σ ⟨G, r, rfl, hG, dG, hr, hv⟩
    try dsimp only
    rw [show ((A.length : Int) - 1 + 1).toNat = A.length by (first | exact nq142 | omega)] at *
    rw [Nat.sub_self] at *
    simp only [List.replicate_zero, List.nil_append, List.drop_zero, vA] at *
    walk_at "ws"
    refine OpAt.eq (normal_walk P G (by (first | exact nq132 hm hG | omega)) 0) (by (first | exact nq12 | omega)) ?_
    walk_at "ws"
    · rw [sizeLine_is]; simp
    · rw [norm_lim hW dG, hv, Nat.mul_comm, Nat.mul_add_div hl0, Nat.div_eq_of_lt hr, Nat.mul_add_mod, Nat.mod_eq_of_lt hr, Nat.add_zero]
end

end

section
section
variable {prog : Program} {w : World} {hT : Heap} {os0 : OsState} {fa : Nat → Addr}
theorem shift_left_walk (P : Facts hT fa) {U wd : Nat} (hU : U = 2 ^ wd) (h1 : 1 ≤ wd) (h2 : wd ≤ 16) (m n : Nat) (hm : (lim U m).length < 2 ^ 23) (hn : n < wd) (k : Nat) :
    Op prog w hT os0 (k + 1) [N (lim U m), .int (n : Int), .int (wd : Int)] (callT (.ref (fa 9))) fun d => d = N (lim U (m * 2 ^ n)) := by
  have hW := two_le hU h1
  have hU2 := U_le hU h2
  have hn2 : 2 ^ n ≤ U := by rw [hU]; exact Nat.pow_le_pow_right (by decide) (by (first | exact nq32 hn | omega))
  refine fn_opF (P.fn 9 (by decide)).1 P.nolimit (xs := ["a", "n", "w"]) (fun pm cd doc vs h => len3 (vs := vs) h fun _ _ _ => rfl) fun Q hQ => ?_
  refine W.sub [("a", LV.val (N (lim U m))), ("n", LV.val (.int (n : Int))), ("w", LV.val (.int (wd : Int)))] (by walk_at "subs") (WXs.cons ?_)
  have dA := lim_dig hW m
  have vA := val_lim hW m
  have cA : lim U m ≠ [] → U ^ ((lim U m).length - 1) ≤ m := fun ne => lim_ge hW (by rintro rfl; exact ne lim_zero)
  generalize lim U m = A at *
  walk_at "ws"
  all_goals try (first | (with_reducible first | exact nq27 hm | exact nq8 | exact nq99 h1 | exact nq264 h2 | exact nq15 h2) | walk_at "num")
  · rename_i hc
    have : A = [] := List.length_eq_zero_iff.mp (by (first | exact nq147 hc | omega))
    rw [← vA, this]; simp [val, lim_zero, N, NL]
  all_goals try rw [Nat.div_eq_of_lt hn]
  all_goals try rw [Nat.mod_eq_of_lt hn]
  all_goals try (first | (with_reducible first | exact nq265 | exact nq792) | walk_at "num")
  · rename_i hc
    refine ⟨fun i σ => ∃ F c, σ = ([("found", LV.own none (NL F)), ("carry", LV.val (.int (c : Nat))), ("mask", LV.val (.int (((2 ^ wd : Nat) : Int) - 1))), ("spots", LV.val (.int ((0 : Nat) : Int))), ("few", LV.val (.int (n : Int))), ("a", LV.val (N A)), ("n", LV.val (.int (n : Int))), ("w", LV.val (.int (wd : Int)))] : St) ∧
      F.length = i ∧ Dig U F ∧ c < 2 ^ n ∧ val U F + U ^ i * c = val U (A.take i) * 2 ^ n, ⟨[], 0, ?_, rfl, fun _ h => (by cases h), Nat.two_pow_pos _, by simp [val]⟩, ?_, ?_⟩
    · rfl
    · rintro i σ hi ⟨F, c, rfl, hF, dF, hc, hv⟩
      rw [N_len] at hi
      try dsimp only
      rw [NL_get hi]
      have tA : A.getD i 0 < U := dA.getD (by (first | exact nq1 hW | omega)) _
      walk_at "ws"
      all_goals try (first | (with_reducible first | exact nq793 h2 hn | exact nq123 hU2 tA | exact nq794 hc | exact nq795 hm hi hF) | walk_at "num")
      rw [NL_snoc rfl]
      generalize hx : A.getD i 0 * 2 ^ n + c = x
      have hx2 : x < 2 ^ n * U := by
        have : (A.getD i 0 + 1) * 2 ^ n ≤ U * 2 ^ n := Nat.mul_le_mul_right _ tA
        rw [Nat.add_mul, Nat.mul_comm U] at this; (first | exact nq796 hc hx this | omega)
      refine TurnF.next _ (by walk_at "subs") ⟨F ++ [x % 2 ^ wd], x / 2 ^ wd, rfl, by simp [hF], dF.app (Dig.one (by rw [← hU]; exact Nat.mod_lt _ (by (first | exact nq1 hW | omega)))), ?_, ?_⟩
      · rw [← hU]; exact (Nat.div_lt_iff_lt_mul (by (first | exact nq1 hW | omega))).mpr hx2
      · rw [← hU, carry_step hF, val_take hi, ← hx, Nat.add_mul, Nat.mul_add, Nat.mul_assoc]; (first | exact nq797 hv | omega)
    · rintro σ ⟨F, c, rfl, hF, dF, hc, hv⟩
      rw [N_len] at *
      try dsimp only
      rw [take_all, vA] at hv
      walk_at "ws"
      all_goals try (first | walk_at "num")
      · have e : val U (F ++ [c]) = m * 2 ^ n := by rw [val_snoc, hF]; exact hv
        have := lim_canon hW (xs := F ++ [c]) (dF.app (Dig.one (by (first | exact nq799 hn2 hc | omega)))) (fun _ => by rw [val_snoc]; simp; exact Nat.le_trans (Nat.le_mul_of_pos_right _ (by (first | exact nq63 ‹_› | omega))) (Nat.le_add_left _ _))
        rw [e] at this
        rw [← this]; simp [N, NL]
      · have hc0 : c = 0 := by (first | exact nq28 ‹_› | omega)
        subst hc0
        have e : val U F = m * 2 ^ n := by simpa using hv
        have := lim_canon hW (xs := F) dF (fun ne => by
          have := cA (by rintro rfl; apply ne; exact List.length_eq_zero_iff.mp (by simpa using hF))
          rw [hF, e]; exact Nat.le_trans this (Nat.le_mul_of_pos_right _ (Nat.two_pow_pos _)))
        rw [e] at this
        rw [← this]

theorem shift_right_walk (P : Facts hT fa) {U wd : Nat} (hU : U = 2 ^ wd) (h1 : 1 ≤ wd) (h2 : wd ≤ 16) (m n : Nat) (hm : (lim U m).length < 2 ^ 23) (hn : n < wd) (k : Nat) :
    Op prog w hT os0 (k + 2) [N (lim U m), .int (n : Int), .int (wd : Int)] (callT (.ref (fa 10))) fun d => d = N (lim U (m / 2 ^ n)) := by
  have hW := two_le hU h1
  have hU2 := U_le hU h2
  have hUn : U = 2 ^ n * 2 ^ (wd - n) := by rw [hU, ← Nat.pow_add]; congr 1; (first | exact nq800 hn | omega)
  have hn0 := Nat.two_pow_pos n
  refine fn_opF (P.fn 10 (by decide)).1 P.nolimit (xs := ["a", "n", "w"]) (fun pm cd doc vs h => len3 (vs := vs) h fun _ _ _ => rfl) fun Q hQ => ?_
  refine W.sub [("a", LV.val (N (lim U m))), ("n", LV.val (.int (n : Int))), ("w", LV.val (.int (wd : Int)))] (by walk_at "subs") (WXs.cons ?_)
  have dA := lim_dig hW m
  have vA := val_lim hW m
  generalize lim U m = A at *
  have step : ∀ x y : Nat, x < U → (y * 2 ^ (wd - n) + x / 2 ^ n) % 2 ^ wd = (y % 2 ^ n) * 2 ^ (wd - n) + x / 2 ^ n := by
    intro x y hx
    have hx2 : x / 2 ^ n < 2 ^ (wd - n) := by rw [Nat.div_lt_iff_lt_mul hn0, Nat.mul_comm, ← hUn]; exact hx
    have e := Nat.div_add_mod y (2 ^ n)
    have e2 : y * 2 ^ (wd - n) = 2 ^ wd * (y / 2 ^ n) + (y % 2 ^ n) * 2 ^ (wd - n) := by
      conv => lhs; rw [← e]
      rw [Nat.add_mul, ← hU]; congr 1
      rw [Nat.mul_right_comm, ← hUn]
    rw [e2, Nat.add_assoc, Nat.mul_add_mod]
    refine Nat.mod_eq_of_lt ?_
    have := Nat.mod_lt y hn0
    have : (y % 2 ^ n + 1) * 2 ^ (wd - n) ≤ 2 ^ n * 2 ^ (wd - n) := Nat.mul_le_mul_right _ this
    rw [← hUn, Nat.add_mul] at this
    rw [← hU]; (first | exact nq801 hx2 this | omega)
  walk_at "ws"
  all_goals try (first | (with_reducible first | exact nq99 h1 | exact nq264 h2 | exact nq8 | exact nq15 h2 | exact nq27 hm | exact nq3 | exact nq802 hm) | walk_at "num")
  all_goals try rw [Nat.div_eq_of_lt hn]
  all_goals try rw [Nat.mod_eq_of_lt hn]
  all_goals try (first | (with_reducible first | exact nq265 | exact nq803) | walk_at "num")
  refine ⟨fun i σ => ∃ F : List Nat, σ = ([("found", LV.own none (NL F)), ("mask", LV.val (.int (((2 ^ wd : Nat) : Int) - 1))), ("spots", LV.val (.int ((0 : Nat) : Int))), ("few", LV.val (.int (n : Int))), ("a", LV.val (N A)), ("n", LV.val (.int (n : Int))), ("w", LV.val (.int (wd : Int)))] : St) ∧
      F.length = i ∧ Dig U F ∧ 2 ^ n * val U F + A.getD 0 0 % 2 ^ n = val U (A.take i) + U ^ i * (A.getD i 0 % 2 ^ n), ⟨[], ?_, rfl, fun _ h => (by cases h), by simp [val]⟩, ?_, ?_⟩
  · rfl
  · rintro i σ hi ⟨F, rfl, hF, dF, hv⟩
    try dsimp only
    rw [show (((0 : Nat) : Int) + i) = (i : Int) by (first | exact nq804 | omega)]
    have tA : A.getD i 0 < U := dA.getD (by (first | exact nq1 hW | omega)) _
    have tB : A.getD (i + 1) 0 < U := dA.getD (by (first | exact nq1 hW | omega)) _
    have hx2 : A.getD i 0 / 2 ^ n < 2 ^ (wd - n) := by rw [Nat.div_lt_iff_lt_mul hn0, Nat.mul_comm, ← hUn]; exact tA
    have key : ∀ σ Q, Sub [("found", LV.own none (NL (F ++ [(A.getD (i + 1) 0 * 2 ^ (wd - n) + A.getD i 0 / 2 ^ n) % 2 ^ wd]))), ("mask", LV.val (.int (((2 ^ wd : Nat) : Int) - 1))), ("spots", LV.val (.int ((0 : Nat) : Int))), ("few", LV.val (.int (n : Int))), ("a", LV.val (N A)), ("n", LV.val (.int (n : Int))), ("w", LV.val (.int (wd : Int)))] σ → TurnF Q (fun i σ => ∃ F : List Nat, σ = ([("found", LV.own none (NL F)), ("mask", LV.val (.int (((2 ^ wd : Nat) : Int) - 1))), ("spots", LV.val (.int ((0 : Nat) : Int))), ("few", LV.val (.int (n : Int))), ("a", LV.val (N A)), ("n", LV.val (.int (n : Int))), ("w", LV.val (.int (wd : Int)))] : St) ∧
      F.length = i ∧ Dig U F ∧ 2 ^ n * val U F + A.getD 0 0 % 2 ^ n = val U (A.take i) + U ^ i * (A.getD i 0 % 2 ^ n)) i .next σ := by
      intro σ Q hs
      refine TurnF.next _ hs ⟨_, rfl, by simp [hF], dF.app (Dig.one (by rw [← hU]; exact Nat.mod_lt _ (by (first | exact nq1 hW | omega)))), ?_⟩
      rw [step _ _ tA, val_snoc, hF, val_take', Nat.pow_succ]
      have e := Nat.div_add_mod (A.getD i 0) (2 ^ n)
      generalize A.getD (i + 1) 0 % 2 ^ n = y at *
      generalize A.getD i 0 / 2 ^ n = x at *
      generalize A.getD i 0 % 2 ^ n = z at *
      rw [← e]
      have : 2 ^ n * (val U F + U ^ i * (y * 2 ^ (wd - n) + x)) = 2 ^ n * val U F + U ^ i * (U * y) + U ^ i * (2 ^ n * x) := by
        rw [hUn]; generalize 2 ^ n = p; generalize 2 ^ (wd - n) = q; grind
      rw [this, Nat.mul_add, Nat.mul_assoc]
      (first | exact nq805 hv | omega)
    walk_at "ws"
    all_goals try (first | (with_reducible first | exact nq27 hm | exact nq83 | exact nq806 ‹_› | exact nq267 hi | exact nq807 h2 | exact nq808 hx2 | exact nq809 | exact nq810 h2 | exact nq811) | walk_at "num")
    all_goals try rw [show ((i : Int) + 1).toNat = i + 1 by (first | exact nq268 | omega)]
    all_goals try (first | exact nq123 hU2 tB | walk_at "num")
    · exact key _ _ (by rw [← NL_snoc rfl]; walk_at "subs")
    · have h0 : A.getD (i + 1) 0 = 0 := getD_ge (by (first | exact nq812 ‹_› | omega))
      rw [h0] at key
      refine key _ _ (by rw [← NL_snoc rfl]; rw [show Builtin.bitAnd (Builtin.bitOr ((A.getD i 0 / 2 ^ n : Nat) : Int) (0 * 2 ^ (((wd - n : Nat) : Int)).toNat)) (((2 ^ wd : Nat) : Int) - 1) = (((0 * 2 ^ (wd - n) + A.getD i 0 / 2 ^ n) % 2 ^ wd : Nat) : Int) from by rw [← and_mask, ← or_low' hx2]; simp]; walk_at "subs")
  · rintro σ ⟨F, rfl, hF, dF, hv⟩
    try dsimp only
    rw [show ((A.length : Int) - ((0 : Nat) : Int)).toNat = A.length by (first | exact nq269 | omega)] at *
    rw [take_all, vA, getD_ge (Nat.le_refl _)] at hv
    walk_at "ws"
    refine OpAt.eq (normal_walk P F (by (first | exact nq813 hm hF | omega)) 0) (by (first | exact nq12 | omega)) ?_
    walk_at "ws"
    rw [norm_lim hW dF]
    have : val U F = m / 2 ^ n := by
      have hlt := Nat.mod_lt (A.getD 0 0) hn0
      refine (Nat.div_eq_of_lt_le ?_ ?_).symm
      · rw [Nat.mul_comm]; simp at hv; (first | exact nq814 hv | omega)
      · rw [Nat.add_mul, Nat.mul_comm (val U F)]; simp at hv; (first | exact nq815 hv | omega)
    rw [this]
end

end

section
theorem val_set {W : Nat} : ∀ {xs : List Nat} {p x : Nat}, p < xs.length → val W (xs.set p x) + W ^ p * xs.getD p 0 = val W xs + W ^ p * x
  | [], p, x, h => by simp at h
  | y :: xs, 0, x, h => by simp [val]; (first | exact nq491 | omega)
  | y :: xs, p + 1, x, h => by
    have ih := val_set (W := W) (xs := xs) (p := p) (x := x) (by simpa using h)
    rw [List.set_cons_succ, List.getD_cons_succ, Nat.pow_succ]
    show y + W * val W (xs.set p x) + W ^ p * W * xs.getD p 0 = y + W * val W xs + W ^ p * W * x
    have := congrArg (W * ·) ih
    simp only [Nat.mul_add] at this
    rw [Nat.mul_comm (W ^ p) W, Nat.mul_assoc, Nat.mul_assoc]; (first | exact nq492 this | omega)
theorem getD_set {xs : List Nat} {p q x : Nat} (h : q ≠ p) : (xs.set p x).getD q 0 = xs.getD q 0 := by
  rw [List.getD_eq_getElem?_getD, List.getD_eq_getElem?_getD, List.getElem?_set_ne (Ne.symm h)]
theorem val_rep {W n : Nat} : val W (List.replicate n 0) = 0 := by
  induction n with
  | zero => rfl
  | succ n ih => rw [List.replicate_succ]; show 0 + W * val W (List.replicate n 0) = 0; rw [ih]; simp
theorem Dig.rep {U n : Nat} (h : 0 < U) : Dig U (List.replicate n 0) := fun x hx => by rw [(List.mem_replicate.mp hx).2]; exact h
theorem getD_rep {n i : Nat} : (List.replicate n 0).getD i 0 = 0 := by
  rw [List.getD_eq_getElem?_getD, List.getElem?_replicate]; split <;> rfl
section
variable {prog : Program} {w : World} {hT : Heap} {os0 : OsState} {fa : Nat → Addr}
theorem mul_school_walk (P : Facts hT fa) {U wd : Nat} (hU : U = 2 ^ wd) (h1 : 1 ≤ wd) (h2 : wd ≤ 16) (m n : Nat) (hm : (lim U m).length < 2 ^ 23) (hn : (lim U n).length < 2 ^ 23) (k : Nat) :
    Op prog w hT os0 (k + 2) [N (lim U m), N (lim U n), .int (wd : Int)] (callT (.ref (fa 35))) fun d => d = N (lim U (m * n)) := by
  have hW := two_le hU h1
  have hU2 := U_le hU h2
  refine fn_opF (P.fn 35 (by decide)).1 P.nolimit (xs := ["a", "b", "w"]) (fun pm cd doc vs h => len3 (vs := vs) h fun _ _ _ => rfl) fun Q hQ => ?_
  refine W.sub [("a", LV.val (N (lim U m))), ("b", LV.val (N (lim U n))), ("w", LV.val (.int (wd : Int)))] (by walk_at "subs") (WXs.cons ?_)
  have dA := lim_dig hW m
  have vA := val_lim hW m
  have dB := lim_dig hW n
  have vB := val_lim hW n
  generalize lim U m = A at *
  generalize lim U n = B at *
  walk_at "ws"
  all_goals try (first | (with_reducible first | exact nq27 hm | exact nq27 hn | exact nq9 | exact nq493 hm hn | exact nq15 h2) | walk_at "num")
  refine ⟨fun i σ => ∃ F : List Nat, σ = ([("found", LV.own none (NL F)), ("mask", LV.val (.int (((2 ^ wd : Nat) : Int) - 1))), ("a", LV.val (N A)), ("b", LV.val (N B)), ("w", LV.val (.int (wd : Int)))] : St) ∧
      F.length = A.length + B.length ∧ Dig U F ∧ val U F = val U (A.take i) * val U B ∧ ∀ j, i + B.length ≤ j → F.getD j 0 = 0, ⟨List.replicate (A.length + B.length) 0, ?_, by simp, Dig.rep (by (first | exact nq1 hW | omega)), by rw [val_rep]; simp [val], fun j _ => getD_rep⟩, ?_, ?_⟩
  · rw [Int.toNat_natCast]; congr 3; exact NL_rep (x := 0)
  · rintro i σ hi ⟨F, rfl, hF, dF, hv, hz⟩
    rw [N_len] at hi
    try dsimp only
    rw [NL_get hi]
    have tA : A.getD i 0 < U := dA.getD (by (first | exact nq1 hW | omega)) _
    walk_at "ws"
    all_goals try walk_at "num"
    refine ⟨fun j σ => ∃ (F' : List Nat) (c : Nat), σ = ([("carry", LV.val (.int (c : Nat))), ("limb", LV.val (.int ((A.getD i 0 : Nat) : Int))), ("at", LV.val (.int (i : Int))), ("found", LV.own none (NL F')), ("mask", LV.val (.int (((2 ^ wd : Nat) : Int) - 1))), ("a", LV.val (N A)), ("b", LV.val (N B)), ("w", LV.val (.int (wd : Int)))] : St) ∧
      F'.length = A.length + B.length ∧ Dig U F' ∧ c < U ∧ val U F' + U ^ (i + j) * c = val U F + U ^ i * (A.getD i 0 * val U (B.take j)) ∧ ∀ q, i + j ≤ q → F'.getD q 0 = F.getD q 0, ⟨F, 0, ?_, hF, dF, by (first | exact nq1 hW | omega), by simp [val], fun q _ => rfl⟩, ?_, ?_⟩
    · rfl
    · rintro j σ hj ⟨F', c, rfl, hF', dF', hc, hv', hz'⟩
      rw [N_len] at hj
      try dsimp only
      rw [NL_get hj]
      have tB : B.getD j 0 < U := dB.getD (by (first | exact nq1 hW | omega)) _
      walk_at "ws"
      all_goals try (first | (with_reducible first | exact nq9 | exact nq206 hi hj hF' | exact nq494 hm hn hF' | exact nq123 hU2 tA | exact nq495 hm hn hi hj) | walk_at "num")
      rw [NL_set rfl, Int.toNat_natCast]
      generalize hx : c + (F'.getD (i + j) 0 + A.getD i 0 * B.getD j 0) = x
      have hx2 : x < U * U := by
        have h3 : A.getD i 0 * B.getD j 0 ≤ (U - 1) * (U - 1) := Nat.mul_le_mul (by (first | exact nq35 tA | omega)) (by (first | exact nq35 tB | omega))
        have h4 : F'.getD (i + j) 0 < U := dF'.getD (by (first | exact nq1 hW | omega)) _
        have h5 : U * U = (U - 1) * (U - 1) + (U - 1) + (U - 1) + 1 := by
          obtain ⟨u, rfl⟩ : ∃ u, U = u + 1 := ⟨U - 1, by (first | exact nq496 hW | omega)⟩
          simp only [Nat.add_sub_cancel]; grind
        (first | exact nq497 hc hx h3 h4 h5 | omega)
      have hvs := val_set (W := U) (xs := F') (p := i + j) (x := x % U) (by (first | exact nq498 hi hj hF' | omega))
      have e := Nat.div_add_mod x U
      refine TurnF.next _ (by walk_at "subs") ⟨F'.set (i + j) (x % 2 ^ wd), x / 2 ^ wd, rfl, by simp [hF'], dF'.set _ (by rw [← hU]; exact Nat.mod_lt _ (by (first | exact nq1 hW | omega))), by rw [← hU]; exact (Nat.div_lt_iff_lt_mul (by (first | exact nq1 hW | omega))).mpr hx2, ?_, ?_⟩
      · rw [← hU, val_take hj, show i + (j + 1) = i + j + 1 by (first | exact nq207 | omega), Nat.pow_succ, Nat.mul_assoc]
        have e2 := congrArg (U ^ (i + j) * ·) e
        rw [← hx] at e2
        simp only [Nat.mul_add] at e2 ⊢
        rw [hx] at e2
        have e3 : U ^ i * (A.getD i 0 * (U ^ j * B.getD j 0)) = U ^ (i + j) * (A.getD i 0 * B.getD j 0) := by rw [Nat.pow_add]; grind
        (first | exact nq499 hv' hvs e2 e3 | omega)
      · intro q hq
        rw [getD_set (by (first | exact nq84 hq | omega))]; exact hz' q (by (first | exact nq85 hq | omega))
    · rintro σ ⟨F', c, rfl, hF', dF', hc, hv', hz'⟩
      rw [N_len] at *
      rw [take_all] at hv'
      try dsimp only
      walk_at "ws"
      all_goals try (first | (with_reducible first | exact nq27 hn | exact nq9 | exact nq501 hm hn hi) | walk_at "num")
      rw [NL_set rfl, Int.toNat_natCast]
      refine TurnF.next _ (by walk_at "subs") ⟨F'.set (i + B.length) c, rfl, by simp [hF'], dF'.set _ hc, ?_, ?_⟩
      · have hvs := val_set (W := U) (xs := F') (p := i + B.length) (x := c) (by (first | exact nq502 hi hF' | omega))
        rw [hz' _ (by (first | exact nq208 | omega)), hz _ (by (first | exact nq208 | omega))] at hvs
        rw [val_take hi, Nat.add_mul, ← hv, Nat.mul_assoc]
        (first | exact nq503 hv' hvs | omega)
      · intro q hq
        rw [getD_set (by (first | exact nq504 hq | omega)), hz' q (by (first | exact nq209 hq | omega))]; exact hz q (by (first | exact nq209 hq | omega))
  · rintro σ ⟨F, rfl, hF, dF, hv, hz⟩
    rw [N_len] at *
    try dsimp only
    rw [take_all, vA, vB] at hv
    walk_at "ws"
    refine OpAt.eq (normal_walk P F (by (first | exact nq505 hm hn hF | omega)) 0) (by (first | exact nq12 | omega)) ?_
    walk_at "ws"
    rw [norm_lim hW dF, hv]
end

end

section
theorem lim_small {U x : Nat} (hW : 2 ≤ U) (h0 : 0 < x) (hx : x < U) : lim U x = [x] := by
  rw [lim_pos hW (by (first | exact nq124 h0 | omega)), Nat.mod_eq_of_lt hx, Nat.div_eq_of_lt hx, lim_zero]
section
variable {prog : Program} {w : World} {hT : Heap} {os0 : OsState} {fa : Nat → Addr}
theorem divrem_small_walk (P : Facts hT fa) {U wd : Nat} (hU : U = 2 ^ wd) (h1 : 1 ≤ wd) (h2 : wd ≤ 16) (m l : Nat) (hm : (lim U m).length < 2 ^ 24) (hl0 : 0 < l) (hl : l < U) (k : Nat) :
    Op prog w hT os0 (k + 3) [N (lim U m), N (lim U l), .int (wd : Int)] (callT (.ref (fa 36))) fun d => d = .tup [N (lim U (m / l)), N (lim U (m % l))] := by
  have hW := two_le hU h1
  refine fn_opF (P.fn 36 (by decide)).1 P.nolimit (xs := ["a", "b", "w"]) (fun pm cd doc vs h => len3 (vs := vs) h fun _ _ _ => rfl) fun Q hQ => ?_
  refine W.sub [("a", LV.val (N (lim U m))), ("b", LV.val (N (lim U l))), ("w", LV.val (.int (wd : Int)))] (by walk_at "subs") (WXs.cons ?_)
  rw [lim_small hW hl0 hl]
  have hr := Nat.mod_lt m hl0
  walk_at "ws"
  all_goals try first | (first | exact nq45 | walk_at "num") | (simp; done)
  refine OpAt.eq (divrem_limb_walk P hU h1 h2 m l hm hl0 hl 0) (by (first | exact nq80 | omega)) ?_
  walk_at "ws"
  all_goals try (first | exact nq8 | walk_at "num")
  all_goals try first | (rw [sizeLine_is]; simp; done)
  · rename_i hc
    rw [lim_small hW (x := m % l) (by (first | exact nq506 hc | omega)) (by (first | exact nq507 hl hr | omega))]; rfl
  · rename_i hc
    rw [show m % l = 0 by (first | exact nq508 hc | omega), lim_zero]; rfl

theorem guess_stop {U T V l hi f s t0 : Nat} (hT : T = hi * U + t0) (hV : V = f * U + s) (ht0 : t0 < U) (hf : 0 < f) (h0 : l ≤ U - 1) (hle : l * V ≤ T) (hup : ∀ q, l < q → q ≤ hi / f → q ≤ U - 1 → T < q * V) : l = min (T / V) (U - 1) := by
  have hV0 : 0 < V := by
    rcases Nat.eq_zero_or_pos U with rfl | h
    · (first | exact nq509 ht0 | omega)
    · rw [hV]; have := Nat.mul_pos hf h; (first | exact nq510 this | omega)
  have h1 : l ≤ T / V := (Nat.le_div_iff_mul_le hV0).mpr hle
  rcases Nat.lt_or_ge l (min (T / V) (U - 1)) with h | h
  · have hq : l + 1 ≤ T / V := by (first | exact nq511 h | omega)
    have h3 := (Nat.le_div_iff_mul_le hV0).mp hq
    have h4 : (l + 1) * f ≤ hi := by
      have : (l + 1) * f * U ≤ hi * U + t0 := by
        rw [← hT]; refine Nat.le_trans ?_ h3
        rw [hV, Nat.mul_add, Nat.mul_assoc]; (first | exact nq512 | omega)
      rcases Nat.lt_or_ge hi ((l + 1) * f) with h5 | h5
      · have : (hi + 1) * U ≤ (l + 1) * f * U := Nat.mul_le_mul_right _ h5
        rw [Nat.add_mul hi] at this; (first | exact nq513 ht0 ‹_› this | omega)
      · exact h5
    have := hup (l + 1) (by (first | exact nq514 | omega)) ((Nat.le_div_iff_mul_le hf).mpr h4) (by (first | exact nq515 h | omega))
    (first | exact nq516 h3 this | omega)
  · (first | exact nq517 h0 h1 h | omega)

theorem guessed_walk (P : Facts hT fa) {U wd : Nat} (hU : U = 2 ^ wd) (h1 : 1 ≤ wd) (h2 : wd ≤ 16) (t0 t1 t2 f s : Nat) (a0 : t0 < U) (a1 : t1 < U) (a2 : t2 < U) (hf : 0 < f) (hfU : f < U) (hs : s < U) (k : Nat) :
    Op prog w hT os0 (k + 1) [N [t0, t1, t2], .int (f : Int), .int (s : Int), .int (wd : Int)] (callT (.ref (fa 37))) fun d => d = .int ((min (((t2 * U + t1) * U + t0) / (f * U + s)) (U - 1) : Nat) : Int) := by
  have hW := two_le hU h1
  have hU2 := U_le hU h2
  have hUU : U * U ≤ 65536 * 65536 := Nat.mul_le_mul hU2 hU2
  have b2 : t2 * U ≤ (U - 1) * U := Nat.mul_le_mul_right _ (by (first | exact nq35 a2 | omega))
  have b3 : (U - 1) * U + U = U * U := by rw [← Nat.succ_mul]; congr 1; (first | exact nq210 a0 | omega)
  refine fn_opF (P.fn 37 (by decide)).1 P.nolimit (xs := ["top", "first", "second", "w"]) (fun pm cd doc vs h => len4 (vs := vs) h fun _ _ _ _ => rfl) fun Q hQ => ?_
  refine W.sub [("top", LV.val (N [t0, t1, t2])), ("first", LV.val (.int (f : Int))), ("second", LV.val (.int (s : Int))), ("w", LV.val (.int (wd : Int)))] (by walk_at "subs") ?_
  refine WXs.mid (fun σ => σ = ([("high", LV.val (.int ((t2 * U + t1 : Nat) : Int))), ("base", LV.val (.int ((2 ^ wd : Nat) : Int))), ("top", LV.val (N [t0, t1, t2])), ("first", LV.val (.int (f : Int))), ("second", LV.val (.int (s : Int))), ("w", LV.val (.int (wd : Int)))] : St)) ?_ ?_
  · walk_at "ws"
    all_goals try first | (first | (with_reducible first | exact nq72 | exact nq15 h2 | exact nq106) | walk_at "num") | (simp; done) | (simp; (first | (with_reducible first | exact nq518 a2 hU2 | exact nq125 hU a1) | omega))
    refine ⟨_, ?_, rfl⟩
    rw [hU]; walk_at "subs"
  rintro σ rfl
  generalize hhi : t2 * U + t1 = hi at hQ ⊢
  refine WXs.mid (fun σ => ∃ l : Nat, σ = ([("limb", LV.val (.int ((l : Nat) : Int))), ("high", LV.val (.int ((hi : Nat) : Int))), ("base", LV.val (.int ((2 ^ wd : Nat) : Int))), ("top", LV.val (N [t0, t1, t2])), ("first", LV.val (.int (f : Int))), ("second", LV.val (.int (s : Int))), ("w", LV.val (.int (wd : Int)))] : St) ∧ l ≤ hi / f ∧ l ≤ U - 1 ∧ ∀ q, l < q → q ≤ hi / f → ¬ q ≤ U - 1) ?_ ?_
  · walk_at "ws"
    all_goals try first | (first | (with_reducible first | exact nq86 hf | exact nq211 hfU hU2) | walk_at "num") | (simp; done) | (simp; omega)
    generalize hq : hi / f = q at *
    refine ⟨_, ?_, min q (U - 1), rfl, Nat.min_le_left _ _, Nat.min_le_right _ _, fun q' _ _ => by (first | exact nq519 ‹_› ‹_› | omega)⟩
    rw [show ((min q (U - 1) : Nat) : Int) = (if ((2 ^ wd : Nat) : Int) - 1 < (q : Int) then ((2 ^ wd : Nat) : Int) - 1 else (q : Int)) from by rw [← hU]; split <;> (first | (with_reducible first | exact nq520 a0 ‹_› | exact nq521 ‹_›) | omega)]
    walk_at "subs"
  rintro σ ⟨l, rfl, g1, g2, g3⟩
  have hlf : l * f ≤ hi := (Nat.le_div_iff_mul_le hf).mp g1
  have hhi2 : hi < U * U := by (first | exact nq522 a1 b2 b3 hhi | omega)
  refine WXs.mid (fun σ => σ = ([("rest", LV.val (.int ((hi - l * f : Nat) : Int))), ("limb", LV.val (.int ((l : Nat) : Int))), ("high", LV.val (.int ((hi : Nat) : Int))), ("base", LV.val (.int ((2 ^ wd : Nat) : Int))), ("top", LV.val (N [t0, t1, t2])), ("first", LV.val (.int (f : Int))), ("second", LV.val (.int (s : Int))), ("w", LV.val (.int (wd : Int)))] : St)) ?_ ?_
  · walk_at "ws"
    all_goals try first | (first | exact nq212 hU2 g2 | walk_at "num") | (simp; done) | (simp; omega)
    refine ⟨_, ?_, rfl⟩; walk_at "subs"
  rintro σ rfl
  refine WXs.cons (WX.whileD (fun n σ => ∃ l' : Nat, n = l' ∧ σ = ([("rest", LV.val (.int ((hi - l' * f : Nat) : Int))), ("limb", LV.val (.int ((l' : Nat) : Int))), ("high", LV.val (.int ((hi : Nat) : Int))), ("base", LV.val (.int ((2 ^ wd : Nat) : Int))), ("top", LV.val (N [t0, t1, t2])), ("first", LV.val (.int (f : Int))), ("second", LV.val (.int (s : Int))), ("w", LV.val (.int (wd : Int)))] : St) ∧ l' ≤ U - 1 ∧ l' * f ≤ hi ∧
    ∀ q, l' < q → q ≤ hi / f → q ≤ U - 1 → hi * U + t0 < q * (f * U + s)) l ⟨l, rfl, rfl, g2, hlf, fun q e1 e2 e3 => absurd e3 (g3 q e1 e2)⟩ ?_)
  rintro n σ ⟨l, rfl, rfl, g1, g2, g3⟩
  have hr : hi - n * f ≤ hi := Nat.sub_le _ _
  walk_at "ws"
  all_goals try first | (first | (with_reducible first | exact nq212 hU2 g1 | exact nq15 h2 | exact nq524 a1 hUU b2 b3 hhi | exact nq45) | walk_at "num") | (simp; done) | (simp; (first | exact nq125 hU a0 | omega))
  all_goals try rw [show [t0, t1, t2].getD (Int.toNat 0) 0 = t0 from rfl] at *
  all_goals try rw [← hU] at *
  · rename_i hc _
    congr 2
    refine guess_stop rfl rfl a0 hf g1 ?_ g3
    have e1 : n * s ≤ (U - 1) * U := Nat.mul_le_mul g1 (by (first | exact nq32 hs | omega))
    have e2 : U * U ≤ (hi - n * f) * U := Nat.mul_le_mul_right _ (by (first | exact nq525 hc | omega))
    rw [Nat.sub_mul] at e2
    rw [Nat.mul_add, ← Nat.mul_assoc]
    have e3 : n * f * U ≤ hi * U := Nat.mul_le_mul_right _ g2
    (first | exact nq526 a0 b3 e1 e2 | omega)
  · rename_i hc2 hc
    have hn0 : 0 < n := by rcases Nat.eq_zero_or_pos n with rfl | h; · exfalso; have h0 : 0 * s = 0 := Nat.zero_mul s; rw [h0] at hc; (first | exact nq527 hc | omega)
                           · exact h
    have e0 : (n - 1) * f + f = n * f := by rw [← Nat.succ_mul]; congr 1; (first | exact nq528 hn0 | omega)
    refine Turn.next (n - 1) _ (by (first | exact nq105 hn0 | omega)) ?_ ⟨n - 1, rfl, rfl, by (first | exact nq529 g1 | omega), by (first | exact nq530 g2 e0 | omega), fun q h3 h4 h5 => ?_⟩
    · rw [show ((hi - (n - 1) * f : Nat) : Int) = ((hi - n * f + f : Nat) : Int) by (first | exact nq531 g2 e0 | omega), show ((n - 1 : Nat) : Int) = (n : Int) - 1 by (first | exact nq532 hn0 | omega)]
      walk_at "subs"
    · rcases Nat.lt_or_ge n q with h6 | h6
      · exact g3 q h6 h4 h5
      · have : q = n := by omega
        subst this
        have e3 : q * f * U ≤ hi * U := Nat.mul_le_mul_right _ g2
        have hc3 : (hi - q * f) * U + t0 < q * s := by omega
        rw [Nat.sub_mul] at hc3
        rw [Nat.mul_add, ← Nat.mul_assoc]; omega
  · rename_i hc2 hc
    congr 2
    refine guess_stop rfl rfl a0 hf g1 ?_ g3
    have e3 : n * f * U ≤ hi * U := Nat.mul_le_mul_right _ g2
    have hc3 : n * s ≤ (hi - n * f) * U + t0 := by (first | exact nq533 hc | omega)
    rw [Nat.sub_mul] at hc3
    rw [Nat.mul_add, ← Nat.mul_assoc]; (first | exact nq534 e3 hc3 | omega)
end

end

section
theorem tk_num {U l b c x : Nat} (hW : 2 ≤ U) (hl : l < U) (hb : b < U) (hc : c < U) (hx : l * b + c = x) : U * (x / U) + x % U = x ∧ x % U < U ∧ x / U ≤ U - 1 ∧ (x % U ≠ 0 → x / U + 1 ≤ U - 1) := by
  have e := Nat.div_add_mod x U
  have em := Nat.mod_lt x (show 0 < U by (first | exact nq1 hW | omega))
  have h1 : l * b ≤ (U - 1) * (U - 1) := Nat.mul_le_mul (by (first | exact nq35 hl | omega)) (by (first | exact nq35 hb | omega))
  have h2 : (U - 1) * (U - 1) + (U - 1) = U * (U - 1) := by rw [← Nat.mul_succ, Nat.mul_comm]; congr 1; (first | exact nq535 hW | omega)
  have h3 : x / U ≤ U - 1 := by
    refine Nat.le_of_lt_succ ((Nat.div_lt_iff_lt_mul (by (first | exact nq1 hW | omega))).mpr ?_)
    rw [Nat.succ_mul, Nat.mul_comm (U - 1)]; (first | exact nq536 hc hx h1 h2 | omega)
  refine ⟨e, em, h3, fun hne => ?_⟩
  rcases Nat.lt_or_ge (x / U) (U - 1) with h | h
  · exact h
  · have : x / U = U - 1 := by (first | exact nq537 h3 h | omega)
    rw [this] at e; (first | exact nq538 hc hx e h1 h2 hne | omega)
theorem tk_step {U : Nat} {F B : List Nat} {V l p j c y c' : Nat} (hlt : p + j < F.length) (hj : j < B.length) (hv : val U F + U ^ p * (l * val U (B.take j)) = V + U ^ (p + j) * c)
    (hy : y + (l * B.getD j 0 + c) = F.getD (p + j) 0 + U * c') : val U (F.set (p + j) y) + U ^ p * (l * val U (B.take (j + 1))) = V + U ^ (p + (j + 1)) * c' := by
  have h1 := val_set (W := U) (xs := F) (p := p + j) (x := y) hlt
  have h2 := congrArg (U ^ (p + j) * ·) hy
  simp only [Nat.mul_add] at h2
  rw [val_take hj, ← Nat.add_assoc p j 1, Nat.pow_succ, Nat.mul_assoc, Nat.mul_add, Nat.mul_add]
  have h3 : U ^ p * (l * (U ^ j * B.getD j 0)) = U ^ (p + j) * (l * B.getD j 0) := by rw [Nat.pow_add]; grind
  (first | exact nq539 hv h1 h2 h3 | omega)
section
variable {prog : Program} {w : World} {hT : Heap} {os0 : OsState} {fa : Nat → Addr}
theorem take_away_walk (P : Facts hT fa) {U wd : Nat} (hU : U = 2 ^ wd) (h1 : 1 ≤ wd) (h2 : wd ≤ 16) (R B : List Nat) (l p : Nat) (hR : R.length < 2 ^ 24) (hp : p + B.length < R.length) (dR : Dig U R) (dB : Dig U B) (hl : l < U) (k : Nat) :
    OpM prog w hT os0 (k + 1) (.ref (fa 38)) (NL R) [N B, .int (l : Int), .int (p : Int), .int (wd : Int)] fun d xs' => ∃ (R' : List Nat) (c : Nat), d = .int (c : Int) ∧ xs' = NL R' ∧ R'.length = R.length ∧ Dig U R' ∧ c ≤ 1 ∧ val U R' + U ^ p * (l * val U B) = val U R + U ^ (p + B.length + 1) * c ∧ ∀ q, p + B.length < q → R'.getD q 0 = R.getD q 0 := by
  have hW := two_le hU h1
  have hU2 := U_le hU h2
  have hUU : (U - 1) * (U - 1) + (U - 1) = (U - 1) * U := by rw [← Nat.mul_succ]; congr 1; (first | exact nq210 hl | omega)
  refine fn_opMF (P.fn 38 (by decide)).1 P.nolimit (x0 := "rest") (xs := ["b", "limb", "at", "w"]) (fun pm cd doc v vs h => lenM4 (vs := vs) h fun _ _ _ _ => rfl) fun a Q hQ => ?_
  refine W.sub [("rest", LV.own (some a) (NL R)), ("b", LV.val (N B)), ("limb", LV.val (.int (l : Int))), ("at", LV.val (.int (p : Int))), ("w", LV.val (.int (wd : Int)))] (by walk_at "subs") (WXs.cons ?_)
  walk_at "ws"
  all_goals try (first | exact nq15 h2 | walk_at "num")
  refine ⟨fun j σ => ∃ (F : List Nat) (c : Nat), σ = ([("carry", LV.val (.int (c : Nat))), ("base", LV.val (.int ((2 ^ wd : Nat) : Int))), ("rest", LV.own (some a) (NL F)), ("b", LV.val (N B)), ("limb", LV.val (.int (l : Int))), ("at", LV.val (.int (p : Int))), ("w", LV.val (.int (wd : Int)))] : St) ∧
      F.length = R.length ∧ Dig U F ∧ c < U ∧ val U F + U ^ p * (l * val U (B.take j)) = val U R + U ^ (p + j) * c ∧ ∀ q, p + j ≤ q → F.getD q 0 = R.getD q 0, ⟨R, 0, rfl, rfl, dR, by (first | exact nq58 hl | omega), by simp [val], fun _ _ => rfl⟩, ?_, ?_⟩
  · rintro j σ hj ⟨F, c, rfl, hF, dF, hc, hv, hz⟩
    rw [N_len] at hj
    try dsimp only
    rw [NL_get hj]
    have tB : B.getD j 0 < U := dB.getD (by (first | exact nq58 hl | omega)) _
    have tF : F.getD (p + j) 0 < U := dF.getD (by (first | exact nq58 hl | omega)) _
    walk_at "ws"
    all_goals try first | (first | (with_reducible first | exact nq9 | exact nq59 hp hj hF | exact nq87 hR hF | exact nq213 hl hU2 | exact nq214 hU hl | exact nq215 hU hU2 | exact nq60 hR hp hj | exact nq540 ‹_› ‹_› | exact (nq541 ‹_› ‹_›).elim | exact (nq543 ‹_› ‹_›).elim) | walk_at "num") | (rw [N_len]; omega)
    all_goals rw [Int.toNat_natCast] at *
    all_goals generalize hx : l * B.getD j 0 + c = x at *
    all_goals obtain ⟨e, em, hq, hne⟩ := tk_num hW hl tB hc hx
    all_goals rw [← hU] at *
    · rename_i hlt _ _
      rw [NL_set (n := F.getD (p + j) 0 + U - x % U) (by (first | exact nq544 em | omega))]
      have hne := hne (by (first | exact nq545 ‹_› | omega))
      refine TurnF.next [("carry", LV.val (.int ((x / U : Nat) + 1 : Int))), ("base", LV.val (.int ((U : Nat) : Int))), ("rest", LV.own (some a) (NL (F.set (p + j) (F.getD (p + j) 0 + U - x % U)))), ("b", LV.val (N B)), ("limb", LV.val (.int (l : Int))), ("at", LV.val (.int (p : Int))), ("w", LV.val (.int (wd : Int)))] (by walk_at "subs") ⟨_, x / U + 1, rfl, by simp [hF], dF.set _ (by (first | exact nq546 hl ‹_› | omega)), by (first | exact nq547 hl ‹_› ‹_› | omega), tk_step (by (first | exact nq126 hp hj hF | omega)) hj hv (by rw [hx, Nat.mul_add]; (first | exact nq548 e em | omega)), fun q h5 => by rw [getD_set (by (first | exact nq84 h5 | omega))]; exact hz q (by (first | exact nq85 h5 | omega))⟩
    · rename_i hlt _ _
      rw [NL_set (n := F.getD (p + j) 0 - x % U) (by (first | exact nq549 ‹_› | omega))]
      refine TurnF.next [("carry", LV.val (.int ((x / U : Nat) + 0 : Int))), ("base", LV.val (.int ((U : Nat) : Int))), ("rest", LV.own (some a) (NL (F.set (p + j) (F.getD (p + j) 0 - x % U)))), ("b", LV.val (N B)), ("limb", LV.val (.int (l : Int))), ("at", LV.val (.int (p : Int))), ("w", LV.val (.int (wd : Int)))] (by walk_at "subs") ⟨_, x / U, rfl, by simp [hF], dF.set _ (by (first | exact nq550 tF | omega)), by (first | exact nq551 hl hq | omega), tk_step (by (first | exact nq126 hp hj hF | omega)) hj hv (by rw [hx]; (first | exact nq552 ‹_› e | omega)), fun q h5 => by rw [getD_set (by (first | exact nq84 h5 | omega))]; exact hz q (by (first | exact nq85 h5 | omega))⟩
  · rintro σ ⟨F, c, rfl, hF, dF, hc, hv, hz⟩
    rw [N_len] at *
    rw [take_all] at hv
    try dsimp only
    have tF : F.getD (p + B.length) 0 < U := dF.getD (by (first | exact nq58 hl | omega)) _
    walk_at "ws"
    all_goals try first | (first | (with_reducible first | exact nq61 hR hp | exact nq9 | exact nq62 hp hF | exact nq87 hR hF | exact nq127 hR hp | exact (nq553 ‹_› ‹_›).elim | exact (nq554 ‹_› ‹_›).elim) | walk_at "num") | (rw [N_len]; omega)
    all_goals rw [Int.toNat_natCast] at *
    all_goals have hvs := fun y => val_set (W := U) (xs := F) (p := p + B.length) (x := y) (by (first | exact nq128 hp hF | omega))
    all_goals rw [← hU] at *
    · refine ⟨_, rfl, F.set (p + B.length) (F.getD (p + B.length) 0 + U - c), 1, rfl, NL_set (by (first | exact nq555 hc | omega)), by simp [hF], dF.set _ (by (first | exact nq556 hl ‹_› | omega)), by (first | exact nq74 | omega), ?_, fun q h5 => by rw [getD_set (by (first | exact nq129 h5 | omega))]; exact hz q (by (first | exact nq130 h5 | omega))⟩
      have h3 := hvs (F.getD (p + B.length) 0 + U - c)
      have h4 : U ^ (p + B.length) * (F.getD (p + B.length) 0 + U - c) + U ^ (p + B.length) * c = U ^ (p + B.length) * F.getD (p + B.length) 0 + U ^ (p + B.length) * U := by rw [← Nat.mul_add, ← Nat.mul_add]; congr 1; (first | exact nq557 hc | omega)
      rw [Nat.pow_succ]; (first | exact nq558 hv h3 h4 | omega)
    · refine ⟨_, rfl, F.set (p + B.length) (F.getD (p + B.length) 0 - c), 0, rfl, NL_set (by (first | exact nq559 ‹_› | omega)), by simp [hF], dF.set _ (by (first | exact nq216 tF | omega)), by (first | exact nq33 | omega), ?_, fun q h5 => by rw [getD_set (by (first | exact nq129 h5 | omega))]; exact hz q (by (first | exact nq130 h5 | omega))⟩
      have h3 := hvs (F.getD (p + B.length) 0 - c)
      have h4 : U ^ (p + B.length) * (F.getD (p + B.length) 0 - c) + U ^ (p + B.length) * c = U ^ (p + B.length) * F.getD (p + B.length) 0 := by rw [← Nat.mul_add]; congr 1; (first | exact nq560 ‹_› | omega)
      (first | exact nq561 hv h3 h4 | omega)
end

end

section
section
variable {prog : Program} {w : World} {hT : Heap} {os0 : OsState} {fa : Nat → Addr}
theorem pb_step {U : Nat} {F B : List Nat} {V p j c y c' : Nat} (hlt : p + j < F.length) (hj : j < B.length) (hv : val U F + U ^ (p + j) * c = V + U ^ p * val U (B.take j))
    (hy : y + U * c' = c + (F.getD (p + j) 0 + B.getD j 0)) : val U (F.set (p + j) y) + U ^ (p + (j + 1)) * c' = V + U ^ p * val U (B.take (j + 1)) := by
  have h1 := val_set (W := U) (xs := F) (p := p + j) (x := y) hlt
  have h2 := congrArg (U ^ (p + j) * ·) hy
  simp only [Nat.mul_add] at h2
  rw [val_take hj, ← Nat.add_assoc p j 1, Nat.pow_succ, Nat.mul_assoc, Nat.mul_add]
  have h3 : U ^ p * (U ^ j * B.getD j 0) = U ^ (p + j) * B.getD j 0 := by rw [Nat.pow_add]; grind
  (first | exact nq562 hv h1 h2 h3 | omega)
theorem put_back_walk (P : Facts hT fa) {U wd : Nat} (hU : U = 2 ^ wd) (h1 : 1 ≤ wd) (h2 : wd ≤ 16) (R B : List Nat) (p : Nat) (hR : R.length < 2 ^ 24) (hp : p + B.length < R.length) (dR : Dig U R) (dB : Dig U B) (k : Nat) :
    OpM prog w hT os0 (k + 1) (.ref (fa 39)) (NL R) [N B, .int (p : Int), .int (wd : Int)] fun d xs' => ∃ (R' : List Nat) (c : Nat), d = .none ∧ xs' = NL R' ∧ R'.length = R.length ∧ Dig U R' ∧ val U R' + U ^ (p + B.length + 1) * c = val U R + U ^ p * val U B ∧ ∀ q, p + B.length < q → R'.getD q 0 = R.getD q 0 := by
  have hW := two_le hU h1
  have hU2 := U_le hU h2
  refine fn_opMF (P.fn 39 (by decide)).1 P.nolimit (x0 := "rest") (xs := ["b", "at", "w"]) (fun pm cd doc v vs h => lenM3 (vs := vs) h fun _ _ _ => rfl) fun a Q hQ => ?_
  refine W.sub [("rest", LV.own (some a) (NL R)), ("b", LV.val (N B)), ("at", LV.val (.int (p : Int))), ("w", LV.val (.int (wd : Int)))] (by walk_at "subs") (WXs.cons ?_)
  walk_at "ws"
  all_goals try (first | exact nq15 h2 | walk_at "num")
  refine ⟨fun j σ => ∃ (F : List Nat) (c : Nat), σ = ([("carry", LV.val (.int (c : Nat))), ("mask", LV.val (.int (((2 ^ wd : Nat) : Int) - 1))), ("rest", LV.own (some a) (NL F)), ("b", LV.val (N B)), ("at", LV.val (.int (p : Int))), ("w", LV.val (.int (wd : Int)))] : St) ∧
      F.length = R.length ∧ Dig U F ∧ c ≤ 1 ∧ val U F + U ^ (p + j) * c = val U R + U ^ p * val U (B.take j) ∧ ∀ q, p + j ≤ q → F.getD q 0 = R.getD q 0, ⟨R, 0, rfl, rfl, dR, by (first | exact nq33 | omega), by simp [val], fun _ _ => rfl⟩, ?_, ?_⟩
  · rintro j σ hj ⟨F, c, rfl, hF, dF, hc, hv, hz⟩
    rw [N_len] at hj
    try dsimp only
    rw [NL_get hj]
    have tB : B.getD j 0 < U := dB.getD (by (first | exact nq1 hW | omega)) _
    have tF : F.getD (p + j) 0 < U := dF.getD (by (first | exact nq1 hW | omega)) _
    walk_at "ws"
    all_goals try first | (first | (with_reducible first | exact nq9 | exact nq59 hp hj hF | exact nq87 hR hF | exact nq60 hR hp hj) | walk_at "num") | (rw [N_len]; omega)
    rw [NL_set rfl, Int.toNat_natCast, ← hU]
    have e := Nat.div_add_mod (c + (F.getD (p + j) 0 + B.getD j 0)) U
    have em := Nat.mod_lt (c + (F.getD (p + j) 0 + B.getD j 0)) (show 0 < U by (first | exact nq1 hW | omega))
    have hlt : (c + (F.getD (p + j) 0 + B.getD j 0)) / U < 2 := (Nat.div_lt_iff_lt_mul (by (first | exact nq1 hW | omega))).mpr (by (first | exact nq563 hc tB tF | omega))
    refine TurnF.next _ (by walk_at "subs") ⟨_, _, rfl, by simp [hF], dF.set _ em, by (first | exact nq564 hlt | omega), pb_step (by (first | exact nq126 hp hj hF | omega)) hj hv (by (first | exact nq565 e | omega)), fun q h5 => by rw [getD_set (by (first | exact nq84 h5 | omega))]; exact hz q (by (first | exact nq85 h5 | omega))⟩
  · rintro σ ⟨F, c, rfl, hF, dF, hc, hv, hz⟩
    rw [N_len] at *
    rw [take_all] at hv
    try dsimp only
    have tF : F.getD (p + B.length) 0 < U := dF.getD (by (first | exact nq1 hW | omega)) _
    walk_at "ws"
    all_goals try first | (first | (with_reducible first | exact nq61 hR hp | exact nq9 | exact nq62 hp hF | exact nq87 hR hF | exact nq127 hR hp) | walk_at "num") | (rw [N_len]; omega)
    have e := Nat.div_add_mod (F.getD (p + B.length) 0 + c) U
    have em := Nat.mod_lt (F.getD (p + B.length) 0 + c) (show 0 < U by (first | exact nq1 hW | omega))
    rw [Int.toNat_natCast, ← hU]
    refine .next ⟨_, rfl, F.set (p + B.length) ((F.getD (p + B.length) 0 + c) % U), (F.getD (p + B.length) 0 + c) / U, rfl, NL_set rfl, by simp [hF], dF.set _ em, ?_, fun q h5 => by rw [getD_set (by (first | exact nq129 h5 | omega))]; exact hz q (by (first | exact nq130 h5 | omega))⟩
    have h3 := val_set (W := U) (xs := F) (p := p + B.length) (x := (F.getD (p + B.length) 0 + c) % U) (by (first | exact nq128 hp hF | omega))
    have h4 := congrArg (U ^ (p + B.length) * ·) e
    simp only [Nat.mul_add] at h4
    rw [Nat.pow_succ, Nat.mul_assoc]; (first | exact nq566 hv h3 h4 | omega)
end

end

section
theorem val_split {W : Nat} (i : Nat) {xs : List Nat} (h : i ≤ xs.length) : val W xs = val W (xs.take i) + W ^ i * val W (xs.drop i) := by
  conv => lhs; rw [← List.take_append_drop i xs]
  rw [val_app, List.length_take, Nat.min_eq_left h]
theorem val_div {W : Nat} (hW : 2 ≤ W) (i : Nat) {xs : List Nat} (h : i ≤ xs.length) (d : Dig W xs) : val W xs / W ^ i = val W (xs.drop i) := by
  rw [val_split i h]
  have := val_lt hW (d.take i)
  rw [List.length_take, Nat.min_eq_left h] at this
  rw [Nat.add_mul_div_left _ _ (Nat.pow_pos (by (first | exact nq1 hW | omega))), Nat.div_eq_of_lt this, Nat.zero_add]
theorem val_nil_of_lt {W : Nat} (hW : 2 ≤ W) (i : Nat) {xs : List Nat} (h : i ≤ xs.length) (hlt : val W xs < W ^ i) : val W (xs.drop i) = 0 := by
  rcases Nat.eq_zero_or_pos (val W (xs.drop i)) with e | e
  · exact e
  · exfalso
    rw [val_split i h] at hlt
    have : W ^ i * 1 ≤ W ^ i * val W (xs.drop i) := Nat.mul_le_mul_left _ e
    (first | exact nq567 hlt this | omega)
theorem val_zero_getD {W : Nat} (hW : 2 ≤ W) : ∀ {xs : List Nat}, val W xs = 0 → ∀ i, xs.getD i 0 = 0
  | [], _, i => by simp
  | x :: xs, h, 0 => by simp [val] at h; simp [h.1]
  | x :: xs, h, i + 1 => by
    have h' : x + W * val W xs = 0 := h
    have : val W xs = 0 := by
      rcases Nat.mul_eq_zero.mp (show W * val W xs = 0 by (first | exact nq162 h' | omega)) with e | e
      · (first | exact nq163 hW e | omega)
      · exact e
    rw [List.getD_cons_succ]; exact val_zero_getD hW this i
theorem val_getD_zero {W : Nat} : ∀ {xs : List Nat}, (∀ i, xs.getD i 0 = 0) → val W xs = 0
  | [], _ => rfl
  | x :: xs, h => by
    have h0 := h 0
    have := val_getD_zero (W := W) (xs := xs) fun i => by have := h (i + 1); rwa [List.getD_cons_succ] at this
    show x + W * val W xs = 0
    simp at h0; rw [this, h0]; simp
theorem getD_drop {xs : List Nat} {i j : Nat} : (xs.drop i).getD j 0 = xs.getD (i + j) 0 := by
  rw [List.getD_eq_getElem?_getD, List.getD_eq_getElem?_getD, List.getElem?_drop]
/-- the digit that is sought, and the guess by three limbs over two -/
theorem knuth {U X b P M T V : Nat} (hP : 0 < P) (hM : 0 < M) (hT : T = X / (M * P)) (hV : V = b / M) (hVU : U ≤ V) (hU : 2 ≤ U) (hX : X < b * (U * P)) :
    X / (b * P) ≤ min (T / V) (U - 1) ∧ min (T / V) (U - 1) ≤ X / (b * P) + 1 := by
  have hMP : 0 < M * P := Nat.mul_pos hM hP
  have hV0 : 0 < V := by (first | exact nq568 hVU hU | omega)
  have hVb : V * M ≤ b := by rw [hV]; exact Nat.div_mul_le_self _ _
  have hbV : b < (V + 1) * M := by rw [hV]; exact (Nat.div_lt_iff_lt_mul hM).mp (Nat.lt_succ_self _)
  have hb0 : 0 < b := Nat.lt_of_lt_of_le (Nat.mul_pos hV0 hM) hVb
  have hbP : 0 < b * P := Nat.mul_pos hb0 hP
  have hTX : T * (M * P) ≤ X := by rw [hT]; exact Nat.div_mul_le_self _ _
  generalize hq : X / (b * P) = q
  have q1 : q * (b * P) ≤ X := by rw [← hq]; exact Nat.div_mul_le_self _ _
  have q2 : X < (q + 1) * (b * P) := by rw [← hq]; exact (Nat.div_lt_iff_lt_mul hbP).mp (Nat.lt_succ_self _)
  have qU : q < U := by
    rw [← hq]; refine (Nat.div_lt_iff_lt_mul hbP).mpr ?_
    have : b * (U * P) = U * (b * P) := by grind
    (first | exact nq569 hX this | omega)
  constructor
  · refine Nat.le_min.mpr ⟨(Nat.le_div_iff_mul_le hV0).mpr ?_, by (first | exact nq35 qU | omega)⟩
    rw [hT]
    refine (Nat.le_div_iff_mul_le hMP).mpr (Nat.le_trans ?_ q1)
    have : q * V * (M * P) = q * (V * M * P) := by grind
    rw [this]
    exact Nat.mul_le_mul_left _ (Nat.mul_le_mul_right _ hVb)
  · generalize hg : min (T / V) (U - 1) = g
    rcases Nat.lt_or_ge (q + 1) g with h | h
    · exfalso
      have g1 : g ≤ T / V := by (first | exact nq570 hg | omega)
      have g2 := (Nat.le_div_iff_mul_le hV0).mp g1
      have e1 : (q + 2) * V * (M * P) ≤ X := Nat.le_trans (Nat.mul_le_mul_right _ (Nat.le_trans (Nat.mul_le_mul_right _ h) g2)) hTX
      have e2 : (q + 1) * (b * P) ≤ (q + 1) * ((V + 1) * M * P) := Nat.mul_le_mul_left _ (Nat.mul_le_mul_right _ (Nat.le_of_lt hbV))
      have e3 : (q + 2) * V * (M * P) < (q + 1) * (V + 1) * (M * P) := by
        have : (q + 1) * ((V + 1) * M * P) = (q + 1) * (V + 1) * (M * P) := by grind
        (first | exact nq571 q2 e1 e2 this | omega)
      have e4 := Nat.lt_of_mul_lt_mul_right e3
      have e5 : (q + 2) * V = (q + 1) * V + V := by grind
      have e6 : (q + 1) * (V + 1) = (q + 1) * V + (q + 1) := by grind
      (first | exact nq572 hVU qU e4 e5 e6 | omega)
    · (first | exact nq573 h | omega)
section
variable {prog : Program} {w : World} {hT : Heap} {os0 : OsState} {fa : Nat → Addr}
theorem slice3 {R : List Nat} {m : Nat} (h : m + 3 ≤ R.length) : pySlice R (some (m : Int)) (some ((m + 3 : Nat) : Int)) = [R.getD m 0, R.getD (m + 1) 0, R.getD (m + 2) 0] := by
  unfold pySlice lowB highB
  have e1 : clipAt R.length (m : Int) = m := by unfold clipAt; (first | exact nq574 h | omega)
  have e2 : clipAt R.length ((m + 3 : Nat) : Int) = m + 3 := by unfold clipAt; (first | exact nq575 h | omega)
  simp only [Option.elim, e1, e2]
  rw [show m + 3 - m = 3 by (first | exact nq576 | omega), drop_getD (by (first | exact nq217 h | omega)), drop_getD (by (first | exact nq218 h | omega)), drop_getD (by (first | exact nq219 h | omega))]
  rfl
theorem top3 {U : Nat} (hW : 2 ≤ U) {R : List Nat} {m : Nat} (h : m + 3 ≤ R.length) (d : Dig U R) (hlt : val U R < U ^ (m + 3)) : val U R / U ^ m = (R.getD (m + 2) 0 * U + R.getD (m + 1) 0) * U + R.getD m 0 := by
  rw [val_div hW m (by (first | exact nq577 h | omega)) d, val_drop (by (first | exact nq217 h | omega)), val_drop (by (first | exact nq218 h | omega)), val_drop (by (first | exact nq219 h | omega)), val_nil_of_lt hW (m + 3) h hlt]
  grind
theorem top2 {U : Nat} (hW : 2 ≤ U) {B : List Nat} (h : 2 ≤ B.length) (d : Dig U B) : val U B / U ^ (B.length - 2) = B.getD (B.length - 1) 0 * U + B.getD (B.length - 2) 0 := by
  rw [val_div hW _ (by (first | exact nq578 | omega)) d, val_drop (by (first | exact nq579 h | omega)), show B.length - 2 + 1 = B.length - 1 by (first | exact nq580 h | omega), val_drop (by (first | exact nq581 h | omega)), List.drop_of_length_le (by (first | exact nq220 | omega))]
  simp [val]; grind

theorem low_lt {U : Nat} (hW : 2 ≤ U) {xs : List Nat} {i : Nat} (h : i ≤ xs.length) (d : Dig U xs) (hz : ∀ q, i ≤ q → xs.getD q 0 = 0) : val U xs < U ^ i := by
  rw [val_split i h, val_getD_zero (xs := xs.drop i) fun j => by rw [getD_drop]; exact hz _ (by (first | exact nq196 | omega))]
  have := val_lt hW (d.take i)
  rw [List.length_take, Nat.min_eq_left h] at this
  simpa using this
theorem high_zero {U : Nat} (hW : 2 ≤ U) {xs : List Nat} {i : Nat} (h : i ≤ xs.length) (hlt : val U xs < U ^ i) (q : Nat) (hq : i ≤ q) : xs.getD q 0 = 0 := by
  have := val_zero_getD hW (val_nil_of_lt hW i h hlt) (q - i)
  rwa [getD_drop, show i + (q - i) = q by (first | exact nq582 hq | omega)] at this

theorem divide_rows_walk (P : Facts hT fa) {U wd : Nat} (hU : U = 2 ^ wd) (h1 : 1 ≤ wd) (h2 : wd ≤ 16) (R B : List Nat) (hs : 2 ≤ B.length) (hlen : B.length < R.length) (hR : R.length < 2 ^ 24) (dR : Dig U R) (dB : Dig U B) (htop : 0 < B.getD (B.length - 1) 0) (hlt : val U R < val U B * U ^ (R.length - B.length)) (k : Nat) :
    OpM prog w hT os0 (k + 2) (.ref (fa 40)) (NL R) [N B, .int (wd : Int)] fun d xs' => ∃ Q R' : List Nat, d = N Q ∧ xs' = NL R' ∧ Q.length = R.length - B.length ∧ Dig U Q ∧ Dig U R' ∧ R'.length = R.length ∧ val U R = val U Q * val U B + val U R' ∧ val U R' < val U B := by
  have hW := two_le hU h1
  have hU2 := U_le hU h2
  have hU0 : 0 < U := by (first | exact nq1 hW | omega)
  refine fn_opMF (P.fn 40 (by decide)).1 P.nolimit (x0 := "rest") (xs := ["b", "w"]) (fun pm cd doc v vs h => lenM2 (vs := vs) h fun _ _ => rfl) fun a Q hQ => ?_
  refine W.sub [("rest", LV.own (some a) (NL R)), ("b", LV.val (N B)), ("w", LV.val (.int (wd : Int)))] (by walk_at "subs") (WXs.cons ?_)
  walk_at "ws"
  all_goals try first | (first | (with_reducible first | exact nq131 hlen hR | exact nq10 hR | exact nq583 hlen | exact nq585 hlen | exact nq586 hR) | walk_at "num") | (simp only [N_len] at *; omega)
  generalize hn : R.length - B.length = n at *
  refine ⟨fun i σ => ∃ F G : List Nat, σ = ([("quotient", LV.own none (NL (List.replicate (n - i) 0 ++ G))), ("size", LV.val (.int (B.length : Int))), ("rest", LV.own (some a) (NL F)), ("b", LV.val (N B)), ("w", LV.val (.int (wd : Int)))] : St) ∧
    G.length = i ∧ Dig U G ∧ F.length = R.length ∧ Dig U F ∧ val U F < val U B * U ^ (n - i) ∧ val U R = val U F + U ^ (n - i) * (val U G * val U B), ⟨R, [], ?_, rfl, fun _ h => (by cases h), rfl, dR, hlt, by simp [val]⟩, ?_, ?_⟩
  · rw [show (((NL R).length : Int) - (B.length : Int)).toNat = n by rw [N_len]; (first | exact nq587 hn | omega), Nat.sub_zero, List.append_nil, ← NL_rep]; rfl
  · rintro i σ hi ⟨F, G, rfl, hG, dG, hF, dF, hv, hv2⟩
    simp only [N_len] at *
    try dsimp only
    have hin : i < n := by (first | exact nq588 hn hi | omega)
    rw [show ((R.length : Int) - (B.length : Int) - 1 - i) = ((n - 1 - i : Nat) : Int) by (first | exact nq589 hn hi | omega)]
    generalize hp : n - 1 - i = p at *
    walk_at "ws"
    all_goals try first | (first | (with_reducible first | exact nq132 hR hF | exact nq590 hs | exact nq591 | exact nq131 hlen hR | exact nq592 hs | exact nq593) | walk_at "num") | (rw [N_len]; omega)
    have hpi : n - i = p + 1 := by (first | exact nq594 hn hi hp | omega)
    rw [hpi] at hv hv2 ⊢
    have hBlt := val_lt hW dB
    have hFlt : val U F < U ^ (p + B.length + 1) := by
      refine Nat.lt_of_lt_of_le hv ?_
      rw [show p + B.length + 1 = B.length + (p + 1) by (first | exact nq221 | omega), Nat.pow_add U B.length (p + 1)]
      exact Nat.mul_le_mul_right _ (Nat.le_of_lt hBlt)
    have hFz := fun q => high_zero hW (xs := F) (i := p + B.length + 1) (by (first | exact nq595 hlen hn hF hp | omega)) hFlt q
    have hsl : D.lst (pySlice (NL F) (some (((p + B.length : Nat) : Int) - 2)) (some (((p + B.length : Nat) : Int) + 1))) = N [F.getD (p + B.length - 2) 0, F.getD (p + B.length - 2 + 1) 0, F.getD (p + B.length - 2 + 2) 0] := by
      rw [show ((p + B.length : Nat) : Int) - 2 = ((p + B.length - 2 : Nat) : Int) by (first | exact nq596 hs | omega), show ((p + B.length : Nat) : Int) + 1 = ((p + B.length - 2 + 3 : Nat) : Int) by (first | exact nq597 hs | omega), pySliceN, slice3 (by (first | exact nq222 hs hlen hn hF hp | omega))]
    rw [hsl, show ((B.length : Int) - 1).toNat = B.length - 1 by (first | exact nq102 | omega), show ((B.length : Int) - 2).toNat = B.length - 2 by (first | exact nq598 | omega)]
    have hT := top3 hW (R := F) (m := p + B.length - 2) (by (first | exact nq222 hs hlen hn hF hp | omega)) dF (by rw [show p + B.length - 2 + 3 = p + B.length + 1 by (first | exact nq599 hs | omega)]; exact hFlt)
    have hV := top2 hW hs dB
    have hP : 0 < U ^ p := Nat.pow_pos hU0
    have hM : 0 < U ^ (B.length - 2) := Nat.pow_pos hU0
    have kn := knuth hP hM (X := val U F) (b := val U B) (hT.symm.trans (by rw [← Nat.pow_add, show B.length - 2 + p = p + B.length - 2 by (first | exact nq600 hs | omega)])) hV.symm (by
      have : 1 * U ≤ B.getD (B.length - 1) 0 * U := Nat.mul_le_mul_right _ htop
      (first | exact nq601 this | omega)) hW (by rw [Nat.pow_succ] at hv; rw [Nat.mul_comm U]; exact hv)
    refine OpAt.eq (guessed_walk P hU h1 h2 _ _ _ _ _ (dF.getD hU0 _) (dF.getD hU0 _) (dF.getD hU0 _) htop (dB.getD hU0 _) (dB.getD hU0 _) 0) (by (first | exact nq12 | omega)) ?_
    generalize hg : min (((F.getD (p + B.length - 2 + 2) 0 * U + F.getD (p + B.length - 2 + 1) 0) * U + F.getD (p + B.length - 2) 0) / (B.getD (B.length - 1) 0 * U + B.getD (B.length - 2) 0)) (U - 1) = g at *
    have hgU : g < U := by (first | exact nq602 hW hg | omega)
    have hB0 : 0 < val U B * U ^ p := by
      rcases Nat.eq_zero_or_pos (val U B * U ^ p) with e | e
      · rw [Nat.pow_succ, ← Nat.mul_assoc, e] at hv; (first | exact nq603 hv | omega)
      · exact e
    generalize hq : val U F / (val U B * U ^ p) = q at *
    have q1 : q * (val U B * U ^ p) ≤ val U F := by rw [← hq]; exact Nat.div_mul_le_self _ _
    have q2 : val U F < (q + 1) * (val U B * U ^ p) := by rw [← hq]; exact (Nat.div_lt_iff_lt_mul hB0).mp (Nat.lt_succ_self _)
    rw [Nat.add_mul, Nat.one_mul] at q2
    have key : ∀ (R2 : List Nat) (σ : St) (Q : Fl → St → Prop) (J : Nat → St → Prop), R2.length = R.length → Dig U R2 → val U R2 + q * (val U B * U ^ p) = val U F → 
      (∀ F G : List Nat, G.length = i + 1 → Dig U G → F.length = R.length → Dig U F → val U F < val U B * U ^ (n - (i + 1)) → val U R = val U F + U ^ (n - (i + 1)) * (val U G * val U B) → J (i + 1) [("quotient", LV.own none (NL (List.replicate (n - (i + 1)) 0 ++ G))), ("size", LV.val (.int (B.length : Int))), ("rest", LV.own (some a) (NL F)), ("b", LV.val (N B)), ("w", LV.val (.int (wd : Int)))]) →
      Sub [("quotient", LV.own none (NL (List.replicate p 0 ++ q :: G))), ("size", LV.val (.int (B.length : Int))), ("rest", LV.own (some a) (NL R2)), ("b", LV.val (N B)), ("w", LV.val (.int (wd : Int)))] σ → TurnF Q J i .next σ := by
      intro R2 σ Q J l1 l2 l3 l4 l5
      have hpn : n - (i + 1) = p := by (first | exact nq604 hp | omega)
      refine TurnF.next _ l5 ?_
      have := l4 R2 (q :: G) (by simp [hG]) (fun y hy => by
        rcases List.mem_cons.mp hy with rfl | hy
        · (first | exact nq605 hW hg kn | omega)
        · exact dG y hy) l1 l2 (by rw [hpn]; (first | exact nq606 q2 l3 | omega)) (by
          rw [hpn, hv2, Nat.pow_succ, ← l3]
          show _ = val U R2 + U ^ p * ((q + U * val U G) * val U B)
          grind)
      rw [hpn] at this; exact this
    walk_at "ws"
    refine ⟨1, by (first | exact nq223 | omega), (take_away_walk P hU h1 h2 F B g p (by (first | exact nq224 hR hF | omega)) (by (first | exact nq607 hlen hn hF hp | omega)) dF dB hgU 0).mono ?_⟩
    rintro d xs' ⟨R1, c, rfl, rfl, r1, r2, r3, r4, r5⟩
    have hR1lt : val U R1 < U ^ (p + B.length + 1) := low_lt hW (by (first | exact nq608 hlen hn hF hp r1 | omega)) r2 fun q hq => by rw [r5 q (by (first | exact nq133 hq | omega))]; exact hFz q hq
    have hgb : U ^ p * (g * val U B) = g * (val U B * U ^ p) := by grind
    rw [hgb] at r4
    walk_at "ws"
    · rename_i hc _
      refine ⟨1, by (first | exact nq223 | omega), (put_back_walk P hU h1 h2 R1 B p (by (first | exact nq609 hR hF r1 | omega)) (by (first | exact nq610 hlen hn hF hp r1 | omega)) r2 dB 0).mono ?_⟩
      rintro d xs' ⟨R2, c2, rfl, rfl, s1, s2, s3, s4⟩
      have hR2lt : val U R2 < U ^ (p + B.length + 1) := low_lt hW (by (first | exact nq611 hlen hn hF hp r1 s1 | omega)) s2 fun q hq => by rw [s4 q (by (first | exact nq133 hq | omega)), r5 q (by (first | exact nq133 hq | omega))]; exact hFz q hq
      have hc1 : c = 1 := by (first | exact nq88 hc | omega)
      subst hc1
      have hbP : val U B * U ^ p ≤ U ^ (p + B.length + 1) := by
        rw [show p + B.length + 1 = B.length + (p + 1) by (first | exact nq221 | omega), Nat.pow_add U B.length (p + 1)]
        exact Nat.mul_le_mul (Nat.le_of_lt hBlt) (Nat.pow_le_pow_right hU0 (by (first | exact nq612 | omega)))
      have hgq : g = q + 1 := by
        rcases Nat.lt_or_ge q g with h | h
        · (first | exact nq225 kn h | omega)
        · have : g = q := by (first | exact nq226 kn h | omega)
          rw [this] at r4; (first | exact nq613 q1 hR1lt r4 | omega)
      rw [hgq, Nat.add_mul, Nat.one_mul] at r4
      rw [Nat.mul_comm (U ^ p)] at s3
      have hc2 : c2 = 1 := by
        rcases Nat.lt_or_ge c2 2 with h | h
        · rcases Nat.eq_zero_or_pos c2 with rfl | h'
          · (first | exact nq614 q1 hR2lt r4 s3 | omega)
          · (first | exact nq615 h h' | omega)
        · have : U ^ (p + B.length + 1) * 2 ≤ U ^ (p + B.length + 1) * c2 := Nat.mul_le_mul_left _ h
          (first | exact nq616 hFlt s3 r4 this | omega)
      subst hc2
      walk_at "ws"
      all_goals try first | (first | (with_reducible first | exact nq3 | exact nq228 hR hn hp) | walk_at "num") | (rw [N_len]; simp; done) | (rw [N_len]; simp; (first | exact nq227 | omega))
      rw [show (g : Int) - 1 = (q : Int) by (first | exact nq617 hgq | omega), NL_set rfl, Int.toNat_natCast, rep_set]
      exact key R2 _ _ _ (by (first | exact nq618 hF r1 s1 | omega)) s2 (by (first | exact nq619 r4 s3 | omega)) (fun F G g1 g2 g3 g4 g5 g6 => ⟨F, G, rfl, g1, g2, g3, g4, g5, g6⟩) (by walk_at "subs")
    all_goals try first | (first | (with_reducible first | exact nq3 | exact nq228 hR hn hp) | walk_at "num") | (rw [N_len]; simp; done) | (rw [N_len]; simp; (first | exact nq227 | omega))
    rename_i hc _
    have hc0 : c = 0 := by (first | exact nq620 r3 hc | omega)
    subst hc0
    have hgq : g = q := by
      rcases Nat.lt_or_ge q g with h | h
      · have : g = q + 1 := by (first | exact nq225 kn h | omega)
        rw [this, Nat.add_mul, Nat.one_mul] at r4; (first | exact nq621 q2 r4 | omega)
      · (first | exact nq226 kn h | omega)
    subst hgq
    rw [NL_set rfl, Int.toNat_natCast, rep_set]
    exact key R1 _ _ _ (by (first | exact nq622 hF r1 | omega)) r2 (by (first | exact nq623 r4 | omega)) (fun F G g1 g2 g3 g4 g5 g6 => ⟨F, G, rfl, g1, g2, g3, g4, g5, g6⟩) (by walk_at "subs")
  · rintro σ ⟨F, G, rfl, hG, dG, hF, dF, hv, hv2⟩
    simp only [N_len] at *
    try dsimp only
    rw [show ((R.length : Int) - (B.length : Int) - 1 + 1).toNat = n by (first | exact nq89 hn | omega)] at *
    rw [Nat.sub_self] at *
    walk_at "ws"
    refine ⟨_, rfl, G, F, rfl, rfl, hG, dG, dF, hF, ?_, ?_⟩
    · simp at hv2; (first | exact nq624 hv2 | omega)
    · simpa using hv
end

end

section
section
variable {prog : Program} {w : World} {hT : Heap} {os0 : OsState} {fa : Nat → Addr}
theorem bits_walk (P : Facts hT fa) {U wd : Nat} (hU : U = 2 ^ wd) (h1 : 1 ≤ wd) (h2 : wd ≤ 16) (x : Nat) (hx : 0 < x) (hxU : x < U) (k : Nat) :
    Op prog w hT os0 (k + 1) [N [x], .int (wd : Int)] (callT (.ref (fa 11))) fun d => d = .int ((x.log2 + 1 : Nat) : Int) := by
  refine fn_opF (P.fn 11 (by decide)).1 P.nolimit (xs := ["a", "w"]) (fun pm cd doc vs h => len2 (vs := vs) h fun _ _ => rfl) fun Q hQ => ?_
  refine W.sub [("a", LV.val (N [x])), ("w", LV.val (.int (wd : Int)))] (by walk_at "subs") (WXs.cons ?_)
  walk_at "ws"
  all_goals try first | (first | exact nq63 ‹_› | walk_at "num") | (simp; done)
  · simp only [List.length_singleton]; exact IntMulOk.of_left (intBits_small (by decide))
  · simp only [List.length_singleton, Builtin.Int.intBits]
    have h0 : [x].getD (1 - 1) 0 = x := rfl
    rw [h0]
    rw [if_neg (by simp; (first | exact nq625 hx | omega))]
    simp
  · rename_i hc; simp at hc

theorem divrem_school_walk (P : Facts hT fa) {U wd : Nat} (hU : U = 2 ^ wd) (h1 : 1 ≤ wd) (h2 : wd ≤ 16) (m n : Nat) (hm : (lim U m).length < 2 ^ 22) (hn : (lim U n).length < 2 ^ 22) (hn0 : 0 < n) (k : Nat) :
    Op prog w hT os0 (k + 4) [N (lim U m), N (lim U n), .int (wd : Int)] (callT (.ref (fa 41))) fun d => d = .tup [N (lim U (m / n)), N (lim U (m % n))] := by
  have hW := two_le hU h1
  have hU2 := U_le hU h2
  refine fn_opF (P.fn 41 (by decide)).1 P.nolimit (xs := ["a", "b", "w"]) (fun pm cd doc vs h => len3 (vs := vs) h fun _ _ _ => rfl) fun Q hQ => ?_
  refine W.sub [("a", LV.val (N (lim U m))), ("b", LV.val (N (lim U n))), ("w", LV.val (.int (wd : Int)))] (by walk_at "subs") (WXs.cons ?_)
  have hbl : (lim U n).length ≠ 0 := fun e => by have := (lim_nil hW).mp (List.length_eq_zero_iff.mp e); (first | exact nq626 hn0 this | omega)
  walk_at "ws"
  all_goals try (first | (with_reducible first | exact nq40 hn | exact (nq627 hbl ‹_›).elim) | walk_at "num")
  refine OpAt.eq (compare_walk P hW m n (by (first | exact nq39 hm | omega)) (by (first | exact nq39 hn | omega)) 0) (by (first | exact nq41 | omega)) ?_
  walk_at "ws"
  all_goals try first | (first | (with_reducible first | exact nq8 | exact nq39 hm | exact nq40 hn | exact nq168 hbl) | walk_at "num") | (rw [sizeLine_is]; simp; done)
  · rename_i hc
    have hlt : m < n := by
      unfold cmpN at hc
      split at hc
      · assumption
      · split at hc <;> (first | (with_reducible first | exact nq628 hc | exact nq629 hc) | omega)
    rw [Nat.div_eq_of_lt hlt, Nat.mod_eq_of_lt hlt, lim_zero]
    simp [pySlice, lowB, highB, N, NL]
  · rename_i hc _
    refine OpAt.eq (divrem_small_walk P hU h1 h2 m n (by (first | exact nq19 hm | omega)) hn0 ?_ 0) (by (first | exact nq181 | omega)) ?_
    · have := lim_lt hW (n := n); rw [show (lim U n).length = 1 by (first | exact nq88 ‹_› | omega)] at this; simpa using this
    · walk_at "ws"; rfl
  rename_i hc hc1
  have hnm : n ≤ m := by
    unfold cmpN at hc
    split at hc
    · (first | exact nq630 hc | omega)
    · (first | exact nq71 ‹_› | omega)
  have hlen := len_mono hW hnm
  have hx0 : 0 < (lim U n).getD ((lim U n).length - 1) 0 := by
    have h := lim_last hW n
    rw [List.getLast?_eq_getElem?] at h
    have h2 : (lim U n).length - 1 < (lim U n).length := by (first | exact nq229 hbl | omega)
    rw [List.getD_eq_getElem?_getD]
    rw [List.getElem?_eq_getElem h2] at h ⊢
    simp at h ⊢; (first | exact nq230 h2 h | omega)
  have hxU : (lim U n).getD ((lim U n).length - 1) 0 < U := (lim_dig hW n).getD (by (first | exact nq1 hW | omega)) _
  have hn1 : n < ((lim U n).getD ((lim U n).length - 1) 0 + 1) * U ^ ((lim U n).length - 1) := by
    have h := val_split (W := U) ((lim U n).length - 1) (xs := lim U n) (by (first | exact nq231 | omega))
    rw [val_drop (by (first | exact nq229 hbl | omega)), List.drop_of_length_le (by (first | exact nq220 | omega)), val_lim hW] at h
    have h2 := val_lt hW ((lim_dig hW n).take ((lim U n).length - 1))
    rw [List.length_take, Nat.min_eq_left (by (first | exact nq231 | omega))] at h2
    simp only [val, Nat.mul_zero, Nat.add_zero] at h
    rw [Nat.mul_comm, Nat.mul_add]; (first | exact nq631 h h2 | omega)
  generalize hx : (lim U n).getD ((lim U n).length - 1) 0 = x at *
  have hlog : x.log2 < wd := (Nat.log2_lt (by (first | exact nq124 hx0 | omega))).mpr (hU ▸ hxU)
  refine OpAt.eq (bits_walk P hU h1 h2 x hx0 hxU 0) (by (first | exact nq41 | omega)) ?_
  walk_at "ws"
  generalize hs : wd - (x.log2 + 1) = s at *
  have hs1 : s < wd := by (first | exact nq632 h1 hs | omega)
  have hxs : (x + 1) * 2 ^ s ≤ U := by
    have h3 : x < 2 ^ (x.log2 + 1) := Nat.lt_log2_self
    have h4 : (x + 1) * 2 ^ s ≤ 2 ^ (x.log2 + 1) * 2 ^ s := Nat.mul_le_mul_right _ h3
    rw [← Nat.pow_add, show x.log2 + 1 + s = wd by (first | exact nq633 hlog hs | omega), ← hU] at h4; exact h4
  have hp0 := Nat.two_pow_pos s
  have hsU : 2 ^ s ≤ U := by rw [hU]; exact Nat.pow_le_pow_right (by decide) (by (first | exact nq634 hs | omega))
  have hnl : (lim U (n * 2 ^ s)).length = (lim U n).length := by
    apply Nat.le_antisymm
    · refine lim_len hW ?_
      have h5 : n * 2 ^ s < (x + 1) * U ^ ((lim U n).length - 1) * 2 ^ s := Nat.mul_lt_mul_of_pos_right hn1 hp0
      have h6 : (x + 1) * U ^ ((lim U n).length - 1) * 2 ^ s = (x + 1) * 2 ^ s * U ^ ((lim U n).length - 1) := by grind
      have h7 : (x + 1) * 2 ^ s * U ^ ((lim U n).length - 1) ≤ U * U ^ ((lim U n).length - 1) := Nat.mul_le_mul_right _ hxs
      have h8 : U ^ (lim U n).length = U * U ^ ((lim U n).length - 1) := by
        rw [Nat.mul_comm, ← Nat.pow_succ]; congr 1; (first | exact nq635 hbl | omega)
      (first | exact nq636 h5 h6 h7 h8 | omega)
    · exact len_mono hW (Nat.le_mul_of_pos_right _ hp0)
  have hml : (lim U (m * 2 ^ s)).length ≤ (lim U m).length + 1 := by
    refine lim_len hW ?_
    rw [Nat.pow_succ]
    exact Nat.mul_lt_mul_of_lt_of_le (lim_lt hW) hsU (by (first | exact nq1 hW | omega))
  refine OpAt.eq (shift_left_walk P hU h1 h2 n s (by (first | exact nq81 hn | omega)) hs1 0) (by (first | exact nq41 | omega)) ?_
  walk_at "ws"
  refine OpAt.eq (shift_left_walk P hU h1 h2 m s (by (first | exact nq81 hm | omega)) hs1 0) (by (first | exact nq41 | omega)) ?_
  walk_at "ws"
  all_goals try first | (first | (with_reducible first | exact nq40 hm | exact nq637 hm hml | exact nq638 hml | exact nq639 hm hml) | walk_at "num") | (simp only [N_len]; omega)
  generalize hc : ((lim U m).length + 1 - (lim U (m * 2 ^ s)).length) = c at *
  rw [show (((lim U m).length : Int) + 1 - ((lim U (m * 2 ^ s)).length : Int)).toNat = c by (first | exact nq640 hc | omega)]
  rw [show NL (lim U (m * 2 ^ s)) ++ List.replicate c (D.int 0) = NL (lim U (m * 2 ^ s) ++ List.replicate c 0) by simp [NL]]
  have vR : val U (lim U (m * 2 ^ s) ++ List.replicate c 0) = m * 2 ^ s := by rw [val_app, val_rep, val_lim hW]; simp
  have lR : (lim U (m * 2 ^ s) ++ List.replicate c 0).length = (lim U m).length + 1 := by simp; (first | exact nq641 hml hc | omega)
  have vB := val_lim hW (n * 2 ^ s)
  refine ⟨2, by (first | exact nq642 | omega), (divide_rows_walk P hU h1 h2 (lim U (m * 2 ^ s) ++ List.replicate c 0) (lim U (n * 2 ^ s)) (by (first | exact nq643 hbl hc1 hnl | omega)) (by (first | exact nq644 hlen hnl lR | omega)) (by (first | exact nq645 hm lR | omega)) ((lim_dig hW _).app (Dig.rep (by (first | exact nq1 hW | omega)))) (lim_dig hW _) ?_ ?_ 0).mono ?_⟩
  · have h := lim_last hW (n * 2 ^ s)
    rw [List.getLast?_eq_getElem?] at h
    have h2 : (lim U (n * 2 ^ s)).length - 1 < (lim U (n * 2 ^ s)).length := by (first | exact nq646 hbl hnl | omega)
    rw [List.getD_eq_getElem?_getD]
    rw [List.getElem?_eq_getElem h2] at h ⊢
    simp at h ⊢; (first | exact nq230 h2 h | omega)
  · rw [vR, vB, lR, hnl]
    have h3 := lim_ge hW (show n ≠ 0 by (first | exact nq124 hn0 | omega))
    have h4 := lim_lt hW (n := m)
    have h5 : U ^ ((lim U n).length - 1) * U ^ ((lim U m).length + 1 - (lim U n).length) = U ^ (lim U m).length := by rw [← Nat.pow_add]; congr 1; (first | exact nq647 hbl hlen | omega)
    have h6 : m < n * U ^ ((lim U m).length + 1 - (lim U n).length) := Nat.lt_of_lt_of_le h4 (h5 ▸ Nat.mul_le_mul_right _ h3)
    have h7 := Nat.mul_lt_mul_of_pos_right h6 hp0
    have h8 : n * U ^ ((lim U m).length + 1 - (lim U n).length) * 2 ^ s = n * 2 ^ s * U ^ ((lim U m).length + 1 - (lim U n).length) := by grind
    (first | exact nq648 h7 h8 | omega)
  rintro d xs' ⟨Q, R', rfl, rfl, q1, q2, q3, q4, q5, q6⟩
  rw [vR, vB] at q5
  rw [vB] at q6
  have hns : 0 < n * 2 ^ s := Nat.mul_pos hn0 hp0
  have hQ : val U Q = m / n := by
    rw [← Nat.mul_div_mul_right m n hp0, q5, Nat.mul_comm, Nat.mul_add_div hns, Nat.div_eq_of_lt q6, Nat.add_zero]
  have hR' : val U R' = m % n * 2 ^ s := by
    rw [← Nat.mul_mod_mul_right, q5, Nat.mul_comm, Nat.mul_add_mod, Nat.mod_eq_of_lt q6]
  walk_at "ws"
  refine OpAt.eq (normal_walk P Q (by (first | exact nq649 hm lR q1 | omega)) 0) (by (first | exact nq41 | omega)) ?_
  rw [norm_lim hW q2, hQ]
  walk_at "ws"
  refine OpAt.eq (normal_walk P R' (by (first | exact nq650 hm lR q4 | omega)) 0) (by (first | exact nq41 | omega)) ?_
  rw [norm_lim hW q3, hR']
  walk_at "ws"
  refine OpAt.eq (shift_right_walk P hU h1 h2 (m % n * 2 ^ s) s ?_ hs1 0) (by (first | exact nq180 | omega)) ?_
  · have := lim_len hW (n := m % n * 2 ^ s) (k := R'.length) (by rw [← hR']; exact val_lt hW q3)
    (first | exact nq651 hm lR q4 this | omega)
  rw [Nat.mul_div_cancel _ hp0]
  walk_at "ws"
  all_goals try first | rfl | (rw [sizeLine_is]; simp; done)
end

end

section
section
variable {prog : Program} {w : World} {hT : Heap} {os0 : OsState} {fa : Nat → Addr}
theorem Z_of {U : Nat} {b : Bool} {n : Nat} {z : Int} (h : z.natAbs = n) (hb : b = decide (z < 0)) : D.tup [.bool b, N (lim U n)] = Z U z := by rw [hb, ← h]

theorem signed_walk (P : Facts hT fa) {U : Nat} (hW : 2 ≤ U) (b : Bool) (n : Nat) (hn : (lim U n).length < 2 ^ 24) (k : Nat) :
    Op prog w hT os0 (k + 1) [.bool b, N (lim U n)] (callT (.ref (fa 13))) fun d => d = Z U (if b = true then -(n : Int) else n) := by
  refine fn_opF (P.fn 13 (by decide)).1 P.nolimit (xs := ["is_below", "nat"]) (fun pm cd doc vs h => len2 (vs := vs) h fun _ _ => rfl) fun Q hQ => ?_
  refine W.sub [("is_below", LV.val (.bool b)), ("nat", LV.val (N (lim U n)))] (by walk_at "subs") (WXs.cons ?_)
  have hl : (lim U n).length = 0 ↔ n = 0 := by rw [List.length_eq_zero_iff, lim_nil hW]
  walk_at "ws"
  all_goals try first | (first | exact nq10 hn | walk_at "num") | (rw [sizeLine_is]; simp; done)
  · rename_i hb; subst hb
    exact Z_of (by simp) (by simp)
  · rename_i hb; subst hb
    have : ((0 : Int) < ((lim U n).length : Int)) ↔ n ≠ 0 := by (first | exact nq394 hl | omega)
    exact Z_of (by simp) (by simp only [if_true]; apply Bool.eq_iff_iff.mpr; simp only [decide_eq_true_eq]; (first | exact nq395 hl | omega))

theorem s_neg_walk (P : Facts hT fa) {U : Nat} (hW : 2 ≤ U) (z : Int) (hn : (lim U z.natAbs).length < 2 ^ 24) (k : Nat) :
    Op prog w hT os0 (k + 2) [Z U z] (callT (.ref (fa 14))) fun d => d = Z U (-z) := by
  refine fn_opF (P.fn 14 (by decide)).1 P.nolimit (xs := ["x"]) (fun pm cd doc vs h => len1 (vs := vs) h fun _ => rfl) fun Q hQ => ?_
  refine W.sub [("x", LV.val (Z U z))] (by walk_at "subs") (WXs.cons ?_)
  walk_at "ws"
  refine OpAt.eq (signed_walk P hW _ _ hn 0) (by (first | exact nq12 | omega)) ?_
  walk_at "ws"
  congr 1
  by_cases h : z < 0
  · simp [h]; (first | exact nq21 h | omega)
  · simp [h]; (first | exact nq22 h | omega)
theorem s_abs_walk (P : Facts hT fa) {U : Nat} (z : Int) (k : Nat) :
    Op prog w hT os0 (k + 1) [Z U z] (callT (.ref (fa 15))) fun d => d = Z U (z.natAbs : Int) := by
  refine fn_opF (P.fn 15 (by decide)).1 P.nolimit (xs := ["x"]) (fun pm cd doc vs h => len1 (vs := vs) h fun _ => rfl) fun Q hQ => ?_
  refine W.sub [("x", LV.val (Z U z))] (by walk_at "subs") (WXs.cons ?_)
  walk_at "ws"
  all_goals try first | walk_at "num" | (rw [sizeLine_is]; simp; done)
  exact Z_of (by simp) (by simp)
theorem s_sign_walk (P : Facts hT fa) {U : Nat} (hW : 2 ≤ U) (z : Int) (hn : (lim U z.natAbs).length < 2 ^ 24) (k : Nat) :
    Op prog w hT os0 (k + 1) [Z U z] (callT (.ref (fa 16))) fun d => d = .int (if z = 0 then 0 else if z < 0 then -1 else 1) := by
  refine fn_opF (P.fn 16 (by decide)).1 P.nolimit (xs := ["x"]) (fun pm cd doc vs h => len1 (vs := vs) h fun _ => rfl) fun Q hQ => ?_
  refine W.sub [("x", LV.val (Z U z))] (by walk_at "subs") (WXs.cons ?_)
  have hl : (lim U z.natAbs).length = 0 ↔ z = 0 := by rw [List.length_eq_zero_iff, lim_nil hW]; (first | exact nq23 | omega)
  walk_at "ws"
  all_goals try first | (first | exact nq10 hn | walk_at "num") | (rw [sizeLine_is]; simp; done)
  · rw [if_pos (by (first | exact nq396 hl ‹_› | omega))]
  · rw [if_neg (by (first | exact nq178 hl ‹_› | omega)), if_pos (by (first | exact nq397 ‹_› | omega))]
  · rw [if_neg (by (first | exact nq178 hl ‹_› | omega)), if_neg (by (first | exact nq44 ‹_› | omega))]
end

end

section
theorem signed_mul (x y : Int) : (if (decide (x < 0) != decide (y < 0)) = true then -((x * y).natAbs : Int) else ((x * y).natAbs : Int)) = x * y := by
  by_cases hx : x < 0 <;> by_cases hy : y < 0
  · have := Int.mul_pos_of_neg_of_neg hx hy
    simp [hx, hy]; (first | exact nq398 this | omega)
  · have := Int.mul_nonpos_of_nonpos_of_nonneg (Int.le_of_lt hx) (Int.not_lt.mp hy)
    simp [hx, hy]; (first | exact nq179 this | omega)
  · have := Int.mul_nonpos_of_nonneg_of_nonpos (Int.not_lt.mp hx) (Int.le_of_lt hy)
    simp [hx, hy]; (first | exact nq179 this | omega)
  · have := Int.mul_nonneg (Int.not_lt.mp hx) (Int.not_lt.mp hy)
    simp [hx, hy]; (first | exact nq399 this | omega)
theorem signed_tdiv (x y : Int) : (if (decide (x < 0) != decide (y < 0)) = true then -((x.natAbs / y.natAbs : Nat) : Int) else ((x.natAbs / y.natAbs : Nat) : Int)) = x.tdiv y := by
  have key : ∀ a b : Nat, (a : Int).tdiv b = ((a / b : Nat) : Int) := fun a b => rfl
  by_cases hx : x < 0 <;> by_cases hy : y < 0
  · simp only [hx, hy, decide_true, bne_self_eq_false, Bool.false_eq_true, if_false]
    rw [← key, show ((x.natAbs : Nat) : Int) = -x by (first | exact nq21 hx | omega), show ((y.natAbs : Nat) : Int) = -y by (first | exact nq21 hy | omega), Int.neg_tdiv_neg]
  · simp only [hx, hy, decide_true, decide_false, Bool.bne_false, if_true]
    rw [← key, show ((x.natAbs : Nat) : Int) = -x by (first | exact nq21 hx | omega), show ((y.natAbs : Nat) : Int) = y by (first | exact nq22 hy | omega), Int.neg_tdiv, Int.neg_neg]
  · simp only [hx, hy, decide_true, decide_false, Bool.false_bne, if_true]
    rw [← key, show ((x.natAbs : Nat) : Int) = x by (first | exact nq22 hx | omega), show ((y.natAbs : Nat) : Int) = -y by (first | exact nq21 hy | omega), Int.tdiv_neg, Int.neg_neg]
  · simp only [hx, hy, decide_false, bne_self_eq_false, Bool.false_eq_true, if_false]
    rw [← key, show ((x.natAbs : Nat) : Int) = x by (first | exact nq22 hx | omega), show ((y.natAbs : Nat) : Int) = y by (first | exact nq22 hy | omega)]
theorem signed_tmod (x y : Int) : (if decide (x < 0) = true then -((x.natAbs % y.natAbs : Nat) : Int) else ((x.natAbs % y.natAbs : Nat) : Int)) = x.tmod y := by
  have key : ∀ a b : Nat, (a : Int).tmod b = ((a % b : Nat) : Int) := fun a b => rfl
  have hb : ∀ z : Int, z.tmod (y.natAbs : Int) = z.tmod y := fun z => by
    by_cases hy : y < 0
    · rw [show ((y.natAbs : Nat) : Int) = -y by (first | exact nq21 hy | omega), Int.tmod_neg]
    · rw [show ((y.natAbs : Nat) : Int) = y by (first | exact nq22 hy | omega)]
  by_cases hx : x < 0
  · simp only [hx, decide_true, if_true]
    rw [← key, hb, show ((x.natAbs : Nat) : Int) = -x by (first | exact nq21 hx | omega), Int.neg_tmod, Int.neg_neg]
  · simp only [hx, decide_false, Bool.false_eq_true, if_false]
    rw [← key, hb, show ((x.natAbs : Nat) : Int) = x by (first | exact nq22 hx | omega)]
section
variable {prog : Program} {w : World} {hT : Heap} {os0 : OsState} {fa : Nat → Addr}
theorem s_add_walk (P : Facts hT fa) {U wd : Nat} (hU : U = 2 ^ wd) (h1 : 1 ≤ wd) (h2 : wd ≤ 16) (x y : Int) (hx : (lim U x.natAbs).length < 2 ^ 22) (hy : (lim U y.natAbs).length < 2 ^ 22) (k : Nat) :
    Op prog w hT os0 (k + 3) [Z U x, Z U y, .int (wd : Int)] (callT (.ref (fa 17))) fun d => d = Z U (x + y) := by
  have hW := two_le hU h1
  have hsum : (lim U (x.natAbs + y.natAbs)).length < 2 ^ 24 := by
    have : (lim U (x.natAbs + y.natAbs)).length ≤ max (lim U x.natAbs).length (lim U y.natAbs).length + 1 := by
      refine lim_len hW ?_
      have a1 := Nat.lt_of_lt_of_le (lim_lt hW (n := x.natAbs)) (Nat.pow_le_pow_right (show 0 < U by (first | exact nq1 hW | omega)) (Nat.le_max_left (lim U x.natAbs).length (lim U y.natAbs).length))
      have a2 := Nat.lt_of_lt_of_le (lim_lt hW (n := y.natAbs)) (Nat.pow_le_pow_right (show 0 < U by (first | exact nq1 hW | omega)) (Nat.le_max_right (lim U x.natAbs).length (lim U y.natAbs).length))
      rw [Nat.pow_succ]
      have : U ^ max (lim U x.natAbs).length (lim U y.natAbs).length * 2 ≤ U ^ max (lim U x.natAbs).length (lim U y.natAbs).length * U := Nat.mul_le_mul_left _ hW
      (first | exact nq400 a1 a2 this | omega)
    (first | exact nq401 hx hy this | omega)
  refine fn_opF (P.fn 17 (by decide)).1 P.nolimit (xs := ["x", "y", "w"]) (fun pm cd doc vs h => len3 (vs := vs) h fun _ _ _ => rfl) fun Q hQ => ?_
  refine W.sub [("x", LV.val (Z U x)), ("y", LV.val (Z U y)), ("w", LV.val (.int (wd : Int)))] (by walk_at "subs") (WXs.cons ?_)
  walk_at "ws"
  · rename_i hc
    refine OpAt.eq (add_walk P hU h1 (by (first | exact nq114 h2 | omega)) _ _ (by (first | exact nq19 hx | omega)) (by (first | exact nq19 hy | omega)) 0) (by (first | exact nq38 | omega)) ?_
    walk_at "ws"
    refine OpAt.eq (signed_walk P hW _ _ hsum 0) (by (first | exact nq38 | omega)) ?_
    walk_at "ws"
    congr 1
    have hc' : (x < 0) ↔ (y < 0) := by simpa using hc
    simp only [decide_eq_true_eq]
    split <;> (first | (with_reducible first | exact nq402 hc' ‹_› | exact nq403 hc' ‹_›) | omega)
  · rename_i hc
    have hc' : ¬ ((x < 0) ↔ (y < 0)) := by simpa using hc
    refine OpAt.eq (compare_walk P hW _ _ (by (first | exact nq39 hx | omega)) (by (first | exact nq39 hy | omega)) 0) (by (first | exact nq38 | omega)) ?_
    walk_at "ws"
    · rename_i hlt
      have hlt' : x.natAbs < y.natAbs := by unfold cmpN at hlt; split at hlt; · assumption
                                            · split at hlt <;> (first | (with_reducible first | exact nq404 hlt | exact nq405 hlt) | omega)
      refine OpAt.eq (sub_walk P hU h1 (by (first | exact nq114 h2 | omega)) _ _ (by (first | exact nq19 hy | omega)) (by (first | exact nq406 hlt' | omega)) 0) (by (first | exact nq80 | omega)) ?_
      walk_at "ws"
      refine OpAt.eq (signed_walk P hW _ _ (Nat.lt_of_le_of_lt (len_mono hW (Nat.sub_le _ _)) (by (first | exact nq19 hy | omega))) 0) (by (first | exact nq38 | omega)) ?_
      walk_at "ws"
      congr 1
      simp only [decide_eq_true_eq]
      split <;> (first | (with_reducible first | exact nq407 hc' hlt' ‹_› | exact nq408 hc' hlt' ‹_›) | omega)
    · rename_i hlt
      have hlt' : y.natAbs ≤ x.natAbs := by unfold cmpN at hlt; split at hlt <;> (first | (with_reducible first | exact nq409 hlt | exact nq410 ‹_›) | omega)
      refine OpAt.eq (sub_walk P hU h1 (by (first | exact nq114 h2 | omega)) _ _ (by (first | exact nq19 hx | omega)) (by (first | exact nq411 hlt' | omega)) 0) (by (first | exact nq80 | omega)) ?_
      walk_at "ws"
      refine OpAt.eq (signed_walk P hW _ _ (Nat.lt_of_le_of_lt (len_mono hW (Nat.sub_le _ _)) (by (first | exact nq19 hx | omega))) 0) (by (first | exact nq38 | omega)) ?_
      walk_at "ws"
      congr 1
      simp only [decide_eq_true_eq]
      split <;> (first | (with_reducible first | exact nq412 hc' hlt' ‹_› | exact nq413 hc' hlt' ‹_›) | omega)

theorem s_sub_walk (P : Facts hT fa) {U wd : Nat} (hU : U = 2 ^ wd) (h1 : 1 ≤ wd) (h2 : wd ≤ 16) (x y : Int) (hx : (lim U x.natAbs).length < 2 ^ 22) (hy : (lim U y.natAbs).length < 2 ^ 22) (k : Nat) :
    Op prog w hT os0 (k + 4) [Z U x, Z U y, .int (wd : Int)] (callT (.ref (fa 18))) fun d => d = Z U (x - y) := by
  have hW := two_le hU h1
  refine fn_opF (P.fn 18 (by decide)).1 P.nolimit (xs := ["x", "y", "w"]) (fun pm cd doc vs h => len3 (vs := vs) h fun _ _ _ => rfl) fun Q hQ => ?_
  refine W.sub [("x", LV.val (Z U x)), ("y", LV.val (Z U y)), ("w", LV.val (.int (wd : Int)))] (by walk_at "subs") (WXs.cons ?_)
  walk_at "ws"
  refine OpAt.eq (s_neg_walk P hW y (by (first | exact nq19 hy | omega)) 0) (by (first | exact nq180 | omega)) ?_
  walk_at "ws"
  refine OpAt.eq (s_add_walk P hU h1 h2 x (-y) hx (by rw [Int.natAbs_neg]; exact hy) 0) (by (first | exact nq181 | omega)) ?_
  walk_at "ws"
  rw [Int.sub_eq_add_neg]

theorem s_mul_walk (P : Facts hT fa) {U wd : Nat} (hU : U = 2 ^ wd) (h1 : 1 ≤ wd) (h2 : wd ≤ 16) (x y : Int) (hx : (lim U x.natAbs).length < 2 ^ 22) (hy : (lim U y.natAbs).length < 2 ^ 22) (k : Nat) :
    Op prog w hT os0 (k + 3) [Z U x, Z U y, .int (wd : Int), .fn (fa 35)] (callT (.ref (fa 19))) fun d => d = Z U (x * y) := by
  have hW := two_le hU h1
  have hprod : (lim U (x.natAbs * y.natAbs)).length < 2 ^ 24 := by
    have : (lim U (x.natAbs * y.natAbs)).length ≤ (lim U x.natAbs).length + (lim U y.natAbs).length := by
      refine lim_len hW ?_
      rw [Nat.pow_add]
      exact Nat.mul_lt_mul'' (lim_lt hW) (lim_lt hW)
    (first | exact nq414 hx hy this | omega)
  refine fn_opF (P.fn 19 (by decide)).1 P.nolimit (xs := ["x", "y", "w", "mul"]) (fun pm cd doc vs h => len4 (vs := vs) h fun _ _ _ _ => rfl) fun Q hQ => ?_
  refine W.sub [("x", LV.val (Z U x)), ("y", LV.val (Z U y)), ("w", LV.val (.int (wd : Int))), ("mul", LV.val (.fn (fa 35)))] (by walk_at "subs") (WXs.cons ?_)
  walk_at "ws"
  refine OpAt.eq (mul_school_walk P hU h1 h2 _ _ (by (first | exact nq81 hx | omega)) (by (first | exact nq81 hy | omega)) 0) (by (first | exact nq80 | omega)) ?_
  walk_at "ws"
  refine OpAt.eq (signed_walk P hW _ _ hprod 0) (by (first | exact nq38 | omega)) ?_
  walk_at "ws"
  congr 1
  rw [← Int.natAbs_mul]
  exact signed_mul x y

theorem tdiv_walk (P : Facts hT fa) {U wd : Nat} (hU : U = 2 ^ wd) (h1 : 1 ≤ wd) (h2 : wd ≤ 16) (x y : Int) (hx : (lim U x.natAbs).length < 2 ^ 22) (hy : (lim U y.natAbs).length < 2 ^ 22) (hy0 : y ≠ 0) (k : Nat) :
    Op prog w hT os0 (k + 5) [Z U x, Z U y, .int (wd : Int), .fn (fa 41)] (callT (.ref (fa 20))) fun d => d = .tup [Z U (x.tdiv y), Z U (x.tmod y)] := by
  have hW := two_le hU h1
  have hl : (lim U y.natAbs).length = 0 ↔ y = 0 := by rw [List.length_eq_zero_iff, lim_nil hW]; (first | exact nq23 | omega)
  refine fn_opF (P.fn 20 (by decide)).1 P.nolimit (xs := ["x", "y", "w", "divrem"]) (fun pm cd doc vs h => len4 (vs := vs) h fun _ _ _ _ => rfl) fun Q hQ => ?_
  refine W.sub [("x", LV.val (Z U x)), ("y", LV.val (Z U y)), ("w", LV.val (.int (wd : Int))), ("divrem", LV.val (.fn (fa 41)))] (by walk_at "subs") (WXs.cons ?_)
  walk_at "ws"
  all_goals try (first | (with_reducible first | exact nq40 hy | exact (nq415 hy0 hl ‹_›).elim) | walk_at "num")
  refine OpAt.eq (divrem_school_walk P hU h1 h2 _ _ hx hy (by (first | exact nq46 hy0 | omega)) 0) (by (first | exact nq53 | omega)) ?_
  walk_at "ws"
  refine OpAt.eq (signed_walk P hW _ _ (Nat.lt_of_le_of_lt (len_mono hW (Nat.div_le_self _ _)) (by (first | exact nq19 hx | omega))) 0) (by (first | exact nq34 | omega)) ?_
  walk_at "ws"
  refine OpAt.eq (signed_walk P hW _ _ (Nat.lt_of_le_of_lt (len_mono hW (Nat.mod_le _ _)) (by (first | exact nq19 hx | omega))) 0) (by (first | exact nq34 | omega)) ?_
  walk_at "ws"
  · rw [sizeLine_is]; simp
  · rw [show (if (decide (x < 0) != decide (y < 0)) = true then -((x.natAbs / y.natAbs : Nat) : Int) else ((x.natAbs / y.natAbs : Nat) : Int)) = x.tdiv y from signed_tdiv x y,
      show (if decide (x < 0) = true then -((x.natAbs % y.natAbs : Nat) : Int) else ((x.natAbs % y.natAbs : Nat) : Int)) = x.tmod y from signed_tmod x y]

theorem exact_walk (P : Facts hT fa) {U wd : Nat} (hU : U = 2 ^ wd) (h1 : 1 ≤ wd) (h2 : wd ≤ 16) (x y : Int) (hx : (lim U x.natAbs).length < 2 ^ 22) (hy : (lim U y.natAbs).length < 2 ^ 22) (hy0 : y ≠ 0) (k : Nat) :
    Op prog w hT os0 (k + 6) [Z U x, Z U y, .int (wd : Int), .fn (fa 41)] (callT (.ref (fa 29))) fun d => d = Z U (x.tdiv y) := by
  refine fn_opF (P.fn 29 (by decide)).1 P.nolimit (xs := ["x", "y", "w", "divrem"]) (fun pm cd doc vs h => len4 (vs := vs) h fun _ _ _ _ => rfl) fun Q hQ => ?_
  refine W.sub [("x", LV.val (Z U x)), ("y", LV.val (Z U y)), ("w", LV.val (.int (wd : Int))), ("divrem", LV.val (.fn (fa 41)))] (by walk_at "subs") (WXs.cons ?_)
  walk_at "ws"
  refine OpAt.eq (tdiv_walk P hU h1 h2 x y hx hy hy0 0) (by (first | exact nq54 | omega)) ?_
  walk_at "ws"
  rfl

theorem gcd_plain_walk (P : Facts hT fa) {U wd : Nat} (hU : U = 2 ^ wd) (h1 : 1 ≤ wd) (h2 : wd ≤ 16) (m n : Nat) (hm : (lim U m).length < 2 ^ 22) (hn : (lim U n).length < 2 ^ 22) (k : Nat) :
    Op prog w hT os0 (k + 5) [N (lim U m), N (lim U n), .int (wd : Int), .fn (fa 41)] (callT (.ref (fa 24))) fun d => d = N (lim U (Nat.gcd m n)) := by
  have hW := two_le hU h1
  refine fn_opF (P.fn 24 (by decide)).1 P.nolimit (xs := ["a", "b", "w", "divrem"]) (fun pm cd doc vs h => len4 (vs := vs) h fun _ _ _ _ => rfl) fun Q hQ => ?_
  refine W.sub [("a", LV.val (N (lim U m))), ("b", LV.val (N (lim U n))), ("w", LV.val (.int (wd : Int))), ("divrem", LV.val (.fn (fa 41)))] (by walk_at "subs") (WXs.cons ?_)
  refine WX.whileD (fun i σ => ∃ a b : Nat, σ = ([("a", LV.val (N (lim U a))), ("b", LV.val (N (lim U b))), ("w", LV.val (.int (wd : Int))), ("divrem", LV.val (.fn (fa 41)))] : St) ∧ i = b ∧ (lim U a).length < 2 ^ 22 ∧ (lim U b).length < 2 ^ 22 ∧ Nat.gcd a b = Nat.gcd m n) n ⟨m, n, rfl, rfl, hm, hn, rfl⟩ ?_
  rintro i σ ⟨a, b, rfl, rfl, ha, hb, hg⟩
  have hl : (lim U i).length = 0 ↔ i = 0 := by rw [List.length_eq_zero_iff, lim_nil hW]
  walk_at "ws"
  all_goals try (first | exact nq40 hb | walk_at "num")
  · refine OpAt.eq (divrem_school_walk P hU h1 h2 a i ha hb (by (first | exact nq115 hl ‹_› | omega)) 0) (by (first | exact nq53 | omega)) ?_
    walk_at "ws"
    have hlt := Nat.mod_lt a (show 0 < i by (first | exact nq115 hl ‹_› | omega))
    refine Turn.next (a % i) [("a", LV.val (N (lim U i))), ("b", LV.val (N (lim U (a % i)))), ("w", LV.val (.int (wd : Int))), ("divrem", LV.val (.fn (fa 41)))] hlt (by walk_at "subs") ⟨i, a % i, rfl, rfl, hb, Nat.lt_of_le_of_lt (len_mono hW (Nat.mod_le _ _)) ha, ?_⟩
    rw [← hg, Nat.gcd_comm a i, Nat.gcd_rec i a, Nat.gcd_comm]
  · have : i = 0 := by (first | exact nq116 hl ‹_› | omega)
    subst this
    rw [← hg, Nat.gcd_zero_right]
end

end

section
section
variable {prog : Program} {w : World} {hT : Heap} {os0 : OsState} {fa : Nat → Addr}
noncomputable def gcdL (ns : List Nat) : Nat := ns.foldl Nat.gcd 0
theorem gcdL_snoc (ns : List Nat) (n : Nat) : gcdL (ns ++ [n]) = Nat.gcd (gcdL ns) n := by simp [gcdL, List.foldl_append]
noncomputable def NN (U : Nat) (ns : List Nat) : List D := ns.map fun n => N (lim U n)
theorem NN_len {U : Nat} (ns : List Nat) : (NN U ns).length = ns.length := by simp [NN]
theorem NN_get {U : Nat} {ns : List Nat} {i : Nat} (h : i < ns.length) : (NN U ns)[i]?.getD .none = N (lim U (ns.getD i 0)) := by
  unfold NN; rw [List.getD_eq_getElem?_getD]; simp [h]
theorem gcdL_len {U L : Nat} (hW : 2 ≤ U) : ∀ (ns : List Nat), (∀ n ∈ ns, (lim U n).length ≤ L) → (lim U (gcdL ns)).length ≤ L := by
  intro ns h
  have key : ∀ (ns : List Nat) (g : Nat), (lim U g).length ≤ L → (∀ n ∈ ns, (lim U n).length ≤ L) → (lim U (ns.foldl Nat.gcd g)).length ≤ L := by
    intro ns
    induction ns with
    | nil => intro g hg _; exact hg
    | cons n ns ih =>
      intro g hg hn
      refine ih _ ?_ fun m hm => hn m (.tail _ hm)
      rcases Nat.eq_zero_or_pos g with rfl | h0
      · rw [Nat.gcd_zero_left]; exact hn n (.head _)
      · exact Nat.le_trans (len_mono hW (Nat.gcd_le_left n h0)) hg
  exact key ns 0 (by rw [lim_zero]; simp) h
theorem gcd_of_walk (P : Facts hT fa) {U wd : Nat} (hU : U = 2 ^ wd) (h1 : 1 ≤ wd) (h2 : wd ≤ 16) (ns : List Nat) (hn : ∀ n ∈ ns, (lim U n).length ≤ 2 ^ 22 - 1) (hl : ns.length ≤ 2 ^ 24) (k : Nat) :
    Op prog w hT os0 (k + 6) [.lst (NN U ns), .int (wd : Int), .fn (fa 41)] (callT (.ref (fa 25))) fun d => d = N (lim U (gcdL ns)) := by
  have hW := two_le hU h1
  refine fn_opF (P.fn 25 (by decide)).1 P.nolimit (xs := ["some", "w", "divrem"]) (fun pm cd doc vs h => len3 (vs := vs) h fun _ _ _ => rfl) fun Q hQ => ?_
  refine W.sub [("some", LV.val (.lst (NN U ns))), ("w", LV.val (.int (wd : Int))), ("divrem", LV.val (.fn (fa 41)))] (by walk_at "subs") (WXs.cons (WX.assign rfl rfl (WL.val (WE.list (WA.nil ⟨by rw [sizeLine_is]; simp, ?_⟩)))))
  refine WXs.cons ?_
  walk_at "ws"
  refine ⟨fun i σ => σ = ([("found", LV.val (N (lim U (gcdL (ns.take i))))), ("some", LV.val (.lst (NN U ns))), ("w", LV.val (.int (wd : Int))), ("divrem", LV.val (.fn (fa 41)))] : St), ?_, ?_, ?_⟩
  · show _ = _
    rw [List.take_zero, show gcdL [] = 0 from rfl, lim_zero]; rfl
  · rintro i σ hi rfl
    rw [NN_len] at hi
    try dsimp only
    rw [NN_get hi]
    have hg : (lim U (gcdL (ns.take i))).length ≤ 2 ^ 22 - 1 := gcdL_len hW _ fun n h => hn n (List.mem_of_mem_take h)
    have hi2 : (lim U (ns.getD i 0)).length ≤ 2 ^ 22 - 1 := hn _ (by rw [List.getD_eq_getElem?_getD]; simp [hi])
    walk_at "ws"
    refine OpAt.eq (gcd_plain_walk P hU h1 h2 _ _ (by (first | exact nq119 hg | omega)) (by (first | exact nq119 hi2 | omega)) 0) (by (first | exact nq54 | omega)) ?_
    walk_at "ws"
    refine TurnF.next _ ?_ rfl
    rw [take_snoc hi, gcdL_snoc]
    walk_at "subs"
  · rintro σ rfl
    rw [NN_len, take_all]
    try dsimp only
    walk_at "ws"
    rfl
end

end

section
/-- the state of Euclid's algorithm with cofactors -/
structure EInv (A B a b : Nat) (s ls t lt : Int) : Prop where
  sign : ∃ e : Int, (e = 1 ∨ e = -1) ∧ 0 ≤ e * s ∧ e * ls ≤ 0 ∧ e * (s * b - ls * a) = B ∧ e * t ≤ 0 ∧ 0 ≤ e * lt ∧ e * (lt * a - t * b) = A
  one : s * A + t * B = a
  two : ls * A + lt * B = b
  bs : s.natAbs ≤ max 1 B
  bt : t.natAbs ≤ max 1 A
  bls : ls.natAbs ≤ max 1 B
  blt : lt.natAbs ≤ max 1 A
  g : Nat.gcd a b = Nat.gcd A B
theorem EInv.start {A B : Nat} : EInv A B A B 1 0 0 1 where
  sign := ⟨1, .inl rfl, by (first | exact nq182 | omega), by (first | exact nq183 | omega), by (first | exact nq184 | omega), by (first | exact nq183 | omega), by (first | exact nq182 | omega), by (first | exact nq184 | omega)⟩
  one := by (first | exact nq416 | omega)
  two := by (first | exact nq417 | omega)
  bs := by simp; (first | exact nq185 | omega)
  bt := by simp
  bls := by simp
  blt := by simp; (first | exact nq185 | omega)
  g := rfl
theorem small_of {e x y u : Int} {N b : Nat} (he : e = 1 ∨ e = -1) (hu : 0 ≤ e * x) (hv : e * y ≤ 0) (h : e * (x * u - y * b) = N) (hu0 : 0 ≤ u) (hb : 0 < b) : y.natAbs ≤ N := by
  have h1 : (0 : Int) ≤ e * x * u := Int.mul_nonneg hu hu0
  have h2 : e * (x * u - y * b) = e * x * u - e * y * b := by grind
  have h3 : -(e * y) * 1 ≤ -(e * y) * b := Int.mul_le_mul_of_nonneg_left (by (first | exact nq418 hb | omega)) (by (first | exact nq186 hv | omega))
  have h4 : -(e * y) * (b : Int) = -(e * y * b) := by grind
  rcases he with rfl | rfl <;> (first | (with_reducible first | exact nq419 hv h h1 h2 h3 h4 | exact nq420 hv h h1 h2 h3 h4) | omega)
theorem EInv.step {A B a b : Nat} {s ls t lt : Int} (h : EInv A B a b s ls t lt) (hb : 0 < b) : EInv A B b (a % b) ls (s - (a / b : Nat) * ls) lt (t - (a / b : Nat) * lt) := by
  obtain ⟨⟨e, he, e1, e2, e3, e4, e5, e6⟩, h1, h2, b1, b2, b3, b4, hg⟩ := h
  have hq : (a : Int) = (b : Int) * (a / b : Nat) + (a % b : Nat) := by
    have := Nat.div_add_mod a b
    exact_mod_cast this.symm
  generalize (a / b) = q at *
  have hgg : Nat.gcd b (a % b) = Nat.gcd A B := by rw [← hg, Nat.gcd_comm a b, Nat.gcd_rec b a, Nat.gcd_comm]
  generalize (a % b) = r at *
  have qn : (0 : Int) ≤ (q : Int) := by (first | exact nq3 | omega)
  have s1 : 0 ≤ -e * ls := by have : -e * ls = -(e * ls) := by grind
                              (first | exact nq421 e2 this | omega)
  have s2 : -e * (s - q * ls) ≤ 0 := by
    have : -e * (s - q * ls) = -(e * s) - -(e * ls) * q := by grind
    have := Int.mul_nonneg (show (0 : Int) ≤ -(e * ls) by (first | exact nq186 e2 | omega)) qn
    (first | exact nq422 e1 ‹_› this | omega)
  have s3 : -e * (ls * (r : Int) - (s - q * ls) * (b : Int)) = B := by rw [← e3, hq]; grind
  have s4 : -e * lt ≤ 0 := by have : -e * lt = -(e * lt) := by grind
                              (first | exact nq423 e5 this | omega)
  have s5 : 0 ≤ -e * (t - q * lt) := by
    have : -e * (t - q * lt) = -(e * t) + e * lt * q := by grind
    have := Int.mul_nonneg e5 qn
    (first | exact nq424 e4 ‹_› this | omega)
  have s6 : -e * ((t - q * lt) * (b : Int) - lt * (r : Int)) = A := by rw [← e6, hq]; grind
  have he' : -e = 1 ∨ -e = -1 := by (first | exact nq425 he | omega)
  refine ⟨⟨-e, he', s1, s2, s3, s4, s5, s6⟩, h2, ?_, b3, b4, ?_, ?_, hgg⟩
  · have : (s - q * ls) * (A : Int) + (t - q * lt) * B = (s * A + t * B) - q * (ls * A + lt * B) := by grind
    rw [this, h1, h2, hq]; grind
  · have := small_of he' s1 s2 s3 (by (first | exact nq3 | omega)) hb
    (first | exact nq187 this | omega)
  · have := small_of (e := e) (x := lt) (y := t - q * lt) (u := r) (N := A) he e5 (by
      have : e * (t - q * lt) = -(-e * (t - q * lt)) := by grind
      (first | exact nq426 s5 this | omega)) (by rw [← s6]; grind) (by (first | exact nq3 | omega)) hb
    (first | exact nq187 this | omega)
theorem EInv.done {A B a : Nat} {s ls t lt : Int} (h : EInv A B a 0 s ls t lt) : s * A + t * B = (Nat.gcd A B : Nat) ∧ a = Nat.gcd A B := by
  have hg := h.g
  rw [Nat.gcd_zero_right] at hg
  exact ⟨by rw [h.one, hg], hg⟩
theorem bound_of {s p : Int} {m : Nat} (h1 : s.natAbs ≤ m) (h2 : (s - p).natAbs ≤ m) : p.natAbs ≤ 2 * m := by (first | exact nq427 h1 h2 | omega)
section
variable {prog : Program} {w : World} {hT : Heap} {os0 : OsState} {fa : Nat → Addr}
theorem gcd_ext_walk (P : Facts hT fa) {U wd : Nat} (hU : U = 2 ^ wd) (h1 : 1 ≤ wd) (h2 : wd ≤ 16) (A B : Nat) (hA : (lim U A).length < 2 ^ 20) (hB : (lim U B).length < 2 ^ 20) (k : Nat) :
    Op prog w hT os0 (k + 5) [N (lim U A), N (lim U B), .int (wd : Int), .fn (fa 35), .fn (fa 41)] (callT (.ref (fa 22))) fun d => ∃ s t : Int, d = .tup [N (lim U (Nat.gcd A B)), Z U s, Z U t] ∧ s * A + t * B = (Nat.gcd A B : Nat) ∧ s.natAbs ≤ max 1 B ∧ t.natAbs ≤ max 1 A := by
  have hW := two_le hU h1
  have l1 : D.lst [D.int 1] = N (lim U 1) := by rw [lim_small hW (by (first | exact nq48 | omega)) (by (first | exact nq24 hW | omega))]; rfl
  have l0 : D.lst [] = N (lim U 0) := by rw [lim_zero]; rfl
  have len1 : (lim U 1).length = 1 := by rw [lim_small hW (by (first | exact nq48 | omega)) (by (first | exact nq24 hW | omega))]; rfl
  have len0 : (lim U 0).length = 0 := by rw [lim_zero]; rfl
  have hAl : (lim U A).length = 0 ↔ A = 0 := by rw [List.length_eq_zero_iff, lim_nil hW]
  have hBl : (lim U B).length = 0 ↔ B = 0 := by rw [List.length_eq_zero_iff, lim_nil hW]
  refine fn_opF (P.fn 22 (by decide)).1 P.nolimit (xs := ["a", "b", "w", "mul", "divrem"]) (fun pm cd doc vs h => len5 (vs := vs) h fun _ _ _ _ _ => rfl) fun Q hQ => ?_
  refine W.sub [("a", LV.val (N (lim U A))), ("b", LV.val (N (lim U B))), ("w", LV.val (.int (wd : Int))), ("mul", LV.val (.fn (fa 35))), ("divrem", LV.val (.fn (fa 41)))] (by walk_at "subs") (WXs.cons ?_)
  walk_at "ws"
  · rw [sizeLine_is]; simp
  rw [l1]
  refine OpAt.eq (signed_walk P hW false 1 (by (first | exact nq188 len1 | omega)) 0) (by (first | exact nq34 | omega)) ?_
  walk_at "ws"
  · rw [sizeLine_is]; simp
  rw [l0]
  refine OpAt.eq (signed_walk P hW false 0 (by (first | exact nq189 len0 | omega)) 0) (by (first | exact nq34 | omega)) ?_
  walk_at "ws"
  all_goals try first | (first | (with_reducible first | exact nq117 hA | exact nq117 hB | exact nq8) | walk_at "num") | (rw [sizeLine_is]; simp; done)
  · rename_i hc1 hc2
    rw [l1]
    refine OpAt.eq (signed_walk P hW false 1 (by (first | exact nq188 len1 | omega)) 0) (by (first | exact nq34 | omega)) ?_
    walk_at "ws"
    all_goals try first | walk_at "num" | (rw [sizeLine_is]; simp; done)
    have hA0 : A = 0 := by (first | exact nq190 hAl hc1 | omega)
    subst hA0
    exact ⟨0, 1, by rw [Nat.gcd_zero_left]; rfl, by rw [Nat.gcd_zero_left]; (first | exact nq428 | omega), by simp, by simp⟩
  · rename_i hc1 hc2
    rw [l0]
    refine OpAt.eq (signed_walk P hW false 0 (by (first | exact nq189 len0 | omega)) 0) (by (first | exact nq34 | omega)) ?_
    walk_at "ws"
    all_goals try first | walk_at "num" | (rw [sizeLine_is]; simp; done)
    have hA0 : A = 0 := by (first | exact nq190 hAl hc1 | omega)
    have hB0 : B = 0 := by (first | exact nq116 hBl hc2 | omega)
    subst hA0 hB0
    exact ⟨0, 0, by rw [Nat.gcd_zero_left]; rfl, by rw [Nat.gcd_zero_left]; (first | exact nq429 | omega), by simp, by simp⟩
  rename_i hcA
  have hmax : (lim U (max A B)).length < 2 ^ 20 := by
    rcases Nat.le_total A B with h | h
    · rw [Nat.max_eq_right h]; exact hB
    · rw [Nat.max_eq_left h]; exact hA
  have hBm : max 1 B ≤ max 1 (max A B) := by (first | exact nq430 | omega)
  have hAm : max 1 A ≤ max 1 (max A B) := by (first | exact nq431 | omega)
  have hbnd : ∀ z : Nat, z ≤ max 1 (max A B) → (lim U z).length < 2 ^ 20 := fun z hz => by
    rcases Nat.le_total 1 (max A B) with h | h
    · exact Nat.lt_of_le_of_lt (len_mono hW (by (first | exact nq432 hAl hcA hz | omega))) hmax
    · exact Nat.lt_of_le_of_lt (len_mono hW (show z ≤ 1 by (first | exact nq433 hz h | omega))) (by (first | exact nq434 len1 | omega))
  have hbnd2 : ∀ z : Nat, z ≤ 2 * max 1 (max A B) → (lim U z).length < 2 ^ 20 + 1 := fun z hz => by
    have a1 := lim_lt hW (n := max 1 (max A B))
    have a2 := hbnd _ (Nat.le_refl (max 1 (max A B)))
    have : (lim U z).length ≤ (lim U (max 1 (max A B))).length + 1 := by
      refine lim_len hW ?_
      rw [Nat.pow_succ]
      have : U ^ (lim U (max 1 (max A B))).length * 2 ≤ U ^ (lim U (max 1 (max A B))).length * U := Nat.mul_le_mul_left _ hW
      (first | exact nq435 hz a1 this | omega)
    (first | exact nq436 a2 this | omega)
  refine W.sub [("s", LV.val (Z U 1)), ("later_s", LV.val (Z U 0)), ("t", LV.val (Z U 0)), ("later_t", LV.val (Z U 1)), ("a", LV.val (N (lim U A))), ("b", LV.val (N (lim U B))), ("w", LV.val (.int (wd : Int))), ("mul", LV.val (.fn (fa 35))), ("divrem", LV.val (.fn (fa 41)))] (by walk_at "subs") ?_
  refine WX.whileD (fun i σ => ∃ (a b : Nat) (s ls t lt : Int), i = b ∧ EInv A B a b s ls t lt ∧ a ≤ max A B ∧ b ≤ max A B ∧ σ = ([("s", LV.val (Z U s)), ("later_s", LV.val (Z U ls)), ("t", LV.val (Z U t)), ("later_t", LV.val (Z U lt)), ("a", LV.val (N (lim U a))), ("b", LV.val (N (lim U b))), ("w", LV.val (.int (wd : Int))), ("mul", LV.val (.fn (fa 35))), ("divrem", LV.val (.fn (fa 41)))] : St)) B ⟨A, B, 1, 0, 0, 1, rfl, EInv.start, by (first | exact nq437 | omega), by (first | exact nq438 | omega), rfl⟩ ?_
  rintro i σ ⟨a, b, s, ls, t, lt, rfl, I, ha, hb, rfl⟩
  have hl : (lim U i).length = 0 ↔ i = 0 := by rw [List.length_eq_zero_iff, lim_nil hW]
  have la := hbnd a (by (first | exact nq191 ha | omega))
  have lb := hbnd i (by (first | exact nq191 hb | omega))
  walk_at "ws"
  all_goals try (first | exact nq117 lb | walk_at "num")
  · rename_i hc
    have hi0 : 0 < i := by (first | exact nq115 hl hc | omega)
    have I2 := I.step hi0
    have hr := Nat.mod_lt a hi0
    have bq : a / i ≤ a := Nat.div_le_self _ _
    have lq := hbnd (a / i) (by (first | exact nq439 ha bq | omega))
    refine OpAt.eq (divrem_school_walk P hU h1 h2 a i (by (first | exact nq29 la | omega)) (by (first | exact nq29 lb | omega)) hi0 0) (by (first | exact nq53 | omega)) ?_
    walk_at "ws"
    refine OpAt.eq (signed_walk P hW false (a / i) (by (first | exact nq118 lq | omega)) 0) (by (first | exact nq34 | omega)) ?_
    walk_at "ws"
    have r1 : (if false = true then -((a / i : Nat) : Int) else ((a / i : Nat) : Int)) = ((a / i : Nat) : Int) := rfl
    rw [r1]
    have c1 := I.bs
    have c2 := I.bt
    have c3 := I.bls
    have c4 := I.blt
    have c5 := I2.bls
    have c6 := I2.blt
    have p1 : (((a / i : Nat) : Int) * ls).natAbs ≤ 2 * max 1 (max A B) := bound_of (Nat.le_trans c1 hBm) (Nat.le_trans c5 hBm)
    have p2 : (((a / i : Nat) : Int) * lt).natAbs ≤ 2 * max 1 (max A B) := bound_of (Nat.le_trans c2 hAm) (Nat.le_trans c6 hAm)
    have d1 := hbnd s.natAbs (Nat.le_trans c1 hBm)
    have d2 := hbnd t.natAbs (Nat.le_trans c2 hAm)
    have d3 := hbnd ls.natAbs (Nat.le_trans c3 hBm)
    have d4 := hbnd lt.natAbs (Nat.le_trans c4 hAm)
    have d5 := hbnd2 _ p1
    have d6 := hbnd2 _ p2
    refine OpAt.eq (s_mul_walk P hU h1 h2 _ ls (by rw [Int.natAbs_natCast]; (first | exact nq29 lq | omega)) (by (first | exact nq29 d3 | omega)) 0) (by (first | exact nq192 | omega)) ?_
    walk_at "ws"
    refine OpAt.eq (s_sub_walk P hU h1 h2 s _ (by (first | exact nq29 d1 | omega)) (by (first | exact nq193 d5 | omega)) 0) (by (first | exact nq53 | omega)) ?_
    walk_at "ws"
    try rw [r1]
    refine OpAt.eq (s_mul_walk P hU h1 h2 _ lt (by rw [Int.natAbs_natCast]; (first | exact nq29 lq | omega)) (by (first | exact nq29 d4 | omega)) 0) (by (first | exact nq192 | omega)) ?_
    walk_at "ws"
    refine OpAt.eq (s_sub_walk P hU h1 h2 t _ (by (first | exact nq29 d2 | omega)) (by (first | exact nq193 d6 | omega)) 0) (by (first | exact nq53 | omega)) ?_
    walk_at "ws"
    refine Turn.next (a % i) [("s", LV.val (Z U ls)), ("later_s", LV.val (Z U (s - ((a / i : Nat) : Int) * ls))), ("t", LV.val (Z U lt)), ("later_t", LV.val (Z U (t - ((a / i : Nat) : Int) * lt))), ("a", LV.val (N (lim U i))), ("b", LV.val (N (lim U (a % i)))), ("w", LV.val (.int (wd : Int))), ("mul", LV.val (.fn (fa 35))), ("divrem", LV.val (.fn (fa 41)))] hr (by walk_at "subs") ⟨i, a % i, ls, _, lt, _, rfl, I2, hb, by (first | exact nq440 hb hr | omega), rfl⟩
  · rw [sizeLine_is]; simp
  · have : i = 0 := by (first | exact nq116 hl ‹_› | omega)
    subst this
    obtain ⟨d1, d2⟩ := I.done
    subst d2
    exact ⟨s, t, rfl, d1, I.bs, I.bt⟩
end

end

section
section
variable {prog : Program} {w : World} {hT : Heap} {os0 : OsState} {fa : Nat → Addr}
noncomputable def IL (is : List Int) : List D := is.map D.int
theorem IL_len (is : List Int) : (IL is).length = is.length := by simp [IL]
theorem item_I {is : List Int} {j : Int} (h0 : 0 ≤ j) (h1 : j < is.length) (h2 : is.length < 2 ^ 62) : ItemOf (.lst (IL is)) j (.int (is.getD j.toNat 0)) := by
  refine ItemOf.lst (by rw [IL_len]; (first | exact nq68 h0 | omega)) (by (first | exact nq37 h0 | omega)) (by (first | exact nq69 h1 h2 | omega)) ?_
  have : pidx j (IL is).length = j.toNat := by unfold pidx; rw [if_neg (by (first | exact nq44 h0 | omega))]
  rw [this, IL, List.getElem?_map, List.getD_eq_getElem?_getD]
  have : j.toNat < is.length := by (first | exact nq70 h0 h1 | omega)
  simp [this]

theorem smoothed_walk (P : Facts hT fa) (n : Nat) (hn : n < 2 ^ 20) (is : List Int) (hl : is.length ≤ 2 ^ 20) (m : Nat) (hm : 0 < m) (k : Nat) :
    OpM prog w hT os0 (k + 1) (.ref (fa 43)) [.int (n : Int), .lst (IL is)] [.int (m : Int)] fun d xs' => ∃ v : Nat, d = .int (v : Int) ∧ v < m ∧ xs' = [.int ((n + 1 : Nat) : Int), .lst (IL is)] := by
  have fin : ∀ x : Int, ∃ v : Nat, x.fmod m = v ∧ v < m := fun x => by
    have h1 := Int.fmod_eq_emod_of_nonneg x (show (0 : Int) ≤ m by (first | exact nq3 | omega))
    have h2 := Int.emod_nonneg x (show (m : Int) ≠ 0 by (first | exact nq20 hm | omega))
    have h3 := Int.emod_lt_of_pos x (show (0 : Int) < m by (first | exact nq154 hm | omega))
    exact ⟨(x.fmod m).toNat, by (first | exact nq652 h1 h2 | omega), by (first | exact nq653 hm h1 h3 | omega)⟩
  refine fn_opMF (P.fn 43 (by decide)).1 P.nolimit (x0 := "stone") (xs := ["many"]) (fun pm cd doc v vs h => lenM1 (vs := vs) h fun _ => rfl) fun a Q hQ => ?_
  refine W.sub [("stone", LV.own (some a) [.int (n : Int), .lst (IL is)]), ("many", LV.val (.int (m : Int)))] (by walk_at "subs") (WXs.mid (fun σ => σ = ([("stone", LV.own (some a) [.int ((n + 1 : Nat) : Int), .lst (IL is)]), ("many", LV.val (.int (m : Int)))] : St)) ?_ ?_)
  · walk_at "ws"
    all_goals try first | (first | (with_reducible first | exact nq45 | exact nq654) | walk_at "num") | (simp; done)
    exact ⟨_, by walk_at "subs", rfl⟩
  rintro σ rfl
  walk_at "ws"
  all_goals try first | (first | (with_reducible first | exact nq90 | exact nq232 | exact nq655 | exact nq656 | exact nq20 hm) | walk_at "nm") | (rw [IL_len] at *; (first | exact nq233 hl | omega))
  · refine ⟨item_I (by (first | exact nq657 | omega)) (by rw [IL_len] at *; (first | exact nq658 ‹_› | omega)) (by (first | exact nq233 hl | omega)), ?_⟩
    walk_at "ws"
    · (first | exact nq20 hm | omega)
    · obtain ⟨v, e, h⟩ := fin (is.getD ((((n + 1 : Nat) : Int) - 1).toNat) 0)
      exact ⟨_, rfl, v, by rw [e], h, rfl⟩
  · exact IntMulOk.of_left (by decide)
  · obtain ⟨v, e, h⟩ := fin (7 * ((n + 1 : Nat) : Int) + (((n + 1 : Nat) : Int)).fdiv 3 + 3)
    exact ⟨_, rfl, v, by rw [e], h, rfl⟩

theorem limbs_walk (P : Facts hT fa) {U wd : Nat} (hU : U = 2 ^ wd) (h1 : 1 ≤ wd) (h2 : wd ≤ 16) (n : Nat) (hn : (lim U n).length < 2 ^ 22) (k : Nat) :
    Op prog w hT os0 (k + 1) [.int (n : Int), .int (wd : Int)] (callT (.ref (fa 44))) fun d => d = N (lim U n) := by
  have hW := two_le hU h1
  have hU2 := U_le hU h2
  refine fn_opF (P.fn 44 (by decide)).1 P.nolimit (xs := ["number", "w"]) (fun pm cd doc vs h => len2 (vs := vs) h fun _ _ => rfl) fun Q hQ => ?_
  refine W.sub [("number", LV.val (.int (n : Int))), ("w", LV.val (.int (wd : Int)))] (by walk_at "subs") (WXs.cons ?_)
  walk_at "ws"
  · rw [sizeLine_is]; simp
  refine WX.whileD (fun i σ => ∃ (m : Nat) (xs : List Nat), σ = ([("found", LV.own Option.none (NL xs)), ("number", LV.val (.int (m : Int))), ("w", LV.val (.int (wd : Int)))] : St) ∧ i = m ∧ xs ++ lim U m = lim U n) n ?_ ?_
  · exact ⟨n, [], rfl, rfl, rfl⟩
  rintro i σ ⟨m, xs, rfl, rfl, hx⟩
  walk_at "ws"
  all_goals try (first | (with_reducible first | exact nq15 h2 | exact nq234 hU hW | exact nq215 hU hU2) | walk_at "nm")
  · rw [sizeLine_is, N_len]; have h := congrArg List.length hx; simp at h; (first | exact nq659 hn h | omega)
  · rename_i hc _
    have hi : i ≠ 0 := by (first | exact nq660 hc | omega)
    rw [NL_snoc rfl, ← hU]
    exact Turn.next (i / U) [("found", LV.own Option.none (NL (xs ++ [i % U]))), ("number", LV.val (.int ((i / U : Nat) : Int))), ("w", LV.val (.int (wd : Int)))] (Nat.div_lt_self (by (first | exact nq63 hc | omega)) (by (first | exact nq24 hW | omega))) (by walk_at "subs") ⟨_, _, rfl, rfl, by rw [← hx, lim_pos hW hi]; simp⟩
  · have : i = 0 := by (first | exact nq28 ‹_› | omega)
    subst this
    rw [← hx, lim_zero, List.append_nil]

theorem law_signed_walk (P : Facts hT fa) {U wd : Nat} (hU : U = 2 ^ wd) (h1 : 1 ≤ wd) (h2 : wd ≤ 16) (z : Int) (hn : (lim U z.natAbs).length < 2 ^ 22) (k : Nat) :
    Op prog w hT os0 (k + 2) [.int z, .int (wd : Int)] (callT (.ref (fa 45))) fun d => d = Z U z := by
  refine fn_opF (P.fn 45 (by decide)).1 P.nolimit (xs := ["number", "w"]) (fun pm cd doc vs h => len2 (vs := vs) h fun _ _ => rfl) fun Q hQ => ?_
  refine W.sub [("number", LV.val (.int z)), ("w", LV.val (.int (wd : Int)))] (by walk_at "subs") (WXs.cons ?_)
  walk_at "ws"
  rw [show (if z < 0 then -z else z) = ((z.natAbs : Nat) : Int) by split <;> (first | (with_reducible first | exact nq91 ‹_› | exact nq92 ‹_›) | omega)]
  refine OpAt.eq (limbs_walk P hU h1 h2 z.natAbs hn 0) (by (first | exact nq12 | omega)) ?_
  walk_at "ws"
  all_goals try first | (first | exact nq4 | walk_at "nm") | (rw [sizeLine_is]; simp; done)

theorem worth_walk (P : Facts hT fa) {U wd : Nat} (hU : U = 2 ^ wd) (h1 : 1 ≤ wd) (h2 : wd ≤ 16) (n : Nat) (hn : (lim U n).length < 2 ^ 22) (k : Nat) :
    Op prog w hT os0 (k + 1) [N (lim U n), .int (wd : Int)] (callT (.ref (fa 46))) fun d => d = .int (n : Int) := by
  have hW := two_le hU h1
  have hU2 := U_le hU h2
  refine fn_opF (P.fn 46 (by decide)).1 P.nolimit (xs := ["limbs", "w"]) (fun pm cd doc vs h => len2 (vs := vs) h fun _ _ => rfl) fun Q hQ => ?_
  refine W.sub [("limbs", LV.val (N (lim U n))), ("w", LV.val (.int (wd : Int)))] (by walk_at "subs") (WXs.cons ?_)
  walk_at "ws"
  · rw [sizeLine_is]; (first | exact nq39 hn | omega)
  have hR : 2 ^ wd < 2 ^ 64 := by rw [← hU]; (first | exact nq661 hU2 | omega)
  refine ⟨fun i σ => ∃ v : Nat, σ = ([("worth", LV.val (.int (v : Int))), ("limbs", LV.val (N (lim U n))), ("w", LV.val (.int (wd : Int)))] : St) ∧ v = val U ((lim U n).drop ((lim U n).length - i)), ⟨0, rfl, by simp [val]⟩, ?_, ?_⟩
  · rintro i σ hi ⟨v, rfl, hv⟩
    rw [N_len, List.length_reverse] at hi
    try dsimp only
    rw [NL_get (by rw [List.length_reverse]; exact hi)]
    walk_at "ws"
    all_goals try (first | exact nq15 h2 | walk_at "nm")
    · refine TurnF.next _ ?_ ⟨val U ((lim U n).drop ((lim U n).length - (i + 1))), rfl, rfl⟩
      have e : (lim U n).length - (i + 1) + 1 = (lim U n).length - i := by (first | exact nq662 hi | omega)
      have h3 := val_drop (W := U) (xs := lim U n) (i := (lim U n).length - (i + 1)) (by (first | exact nq663 hi | omega))
      rw [e, ← hv] at h3
      have h4 : (lim U n).reverse.getD i 0 = (lim U n).getD ((lim U n).length - (i + 1)) 0 := by
        rw [List.getD_eq_getElem?_getD, List.getD_eq_getElem?_getD, List.getElem?_reverse (by (first | exact nq164 hi | omega))]; congr 2; (first | exact nq134 | omega)
      rw [h3, h4, ← hU, Nat.add_comm _ (U * v), Nat.mul_comm U v]
      walk_at "subs"
  · rintro σ ⟨v, rfl, hv⟩
    rw [N_len, List.length_reverse, Nat.sub_self, List.drop_zero, val_lim hW] at hv
    subst hv
    try dsimp only
    walk_at "ws"
    rfl

noncomputable def gcdZ (is : List Int) : Nat := is.foldl (fun g i => Nat.gcd g i.natAbs) 0
theorem common_walk (P : Facts hT fa) (is : List Int) (hl : is.length < 2 ^ 20) (k : Nat) :
    Op prog w hT os0 (k + 1) [.lst (IL is)] (callT (.ref (fa 47))) fun d => d = .int (gcdZ is : Int) := by
  refine fn_opF (P.fn 47 (by decide)).1 P.nolimit (xs := ["some"]) (fun pm cd doc vs h => len1 (vs := vs) h fun _ => rfl) fun Q hQ => ?_
  refine W.sub [("some", LV.val (.lst (IL is)))] (by walk_at "subs") (WXs.cons ?_)
  walk_at "ws"
  refine ⟨fun i σ => σ = ([("found", LV.val (.int ((gcdZ (is.take i) : Nat) : Int))), ("some", LV.val (.lst (IL is)))] : St), rfl, ?_, ?_⟩
  · rintro i σ hi rfl
    rw [IL_len] at hi
    try dsimp only
    rw [show (IL is)[i]?.getD D.none = .int (is.getD i 0) by rw [List.getD_eq_getElem?_getD]; simp [IL, hi]]
    walk_at "ws"
    rw [show (if is.getD i 0 < 0 then -is.getD i 0 else is.getD i 0) = (((is.getD i 0).natAbs : Nat) : Int) by split <;> (first | (with_reducible first | exact nq91 ‹_› | exact nq92 ‹_›) | omega)]
    refine W.sub [("found", LV.val (.int ((gcdZ (is.take i) : Nat) : Int))), ("one", LV.val (.int (((is.getD i 0).natAbs : Nat) : Int))), ("some", LV.val (.lst (IL is)))] (by walk_at "subs") ?_
    refine WX.whileD (fun j σ => ∃ a b : Nat, σ = ([("found", LV.val (.int (a : Int))), ("one", LV.val (.int (b : Int))), ("some", LV.val (.lst (IL is)))] : St) ∧ j = b ∧ Nat.gcd a b = gcdZ (is.take (i + 1))) (is.getD i 0).natAbs ⟨_, _, rfl, rfl, ?_⟩ ?_
    · rw [List.take_add_one, gcdZ, gcdZ, List.foldl_append, List.getD_eq_getElem?_getD]; simp [hi]
    rintro j σ ⟨a, b, rfl, rfl, hg⟩
    walk_at "ws"
    all_goals try (first | exact nq63 ‹_› | walk_at "nm")
    · exact Turn.next (a % j) [("found", LV.val (.int (j : Int))), ("one", LV.val (.int ((a % j : Nat) : Int))), ("some", LV.val (.lst (IL is)))] (Nat.mod_lt _ (by (first | exact nq63 ‹_› | omega))) (by walk_at "subs") ⟨_, _, rfl, rfl, by rw [← hg, Nat.gcd_comm a j, Nat.gcd_rec j a, Nat.gcd_comm]⟩
    · have : j = 0 := by (first | exact nq28 ‹_› | omega)
      subst this
      refine TurnF.next _ ?_ rfl
      rw [← hg, Nat.gcd_zero_right]
      walk_at "subs"
  · rintro σ rfl
    rw [IL_len, List.take_length]
    try dsimp only
    walk_at "ws"
    rfl
end

end

section
section
variable {prog : Program} {w : World} {hT : Heap} {os0 : OsState} {fa : Nat → Addr}
theorem exLR {n : Nat} {f : Nat → D} {Q : List D → Prop} (h : Q ((List.range n).map f)) : ∃ ds, LR n f = .lst ds ∧ Q ds := ⟨_, rfl, h⟩
theorem turned_walk (P : Facts hT fa) {U : Nat} (M : Nat → Nat → Int) (k : Nat) :
    Op prog w hT os0 (k + 1) [mat U M] (callT (.ref (fa 50))) fun d => d = mat U (fun i j => M j i) := by
  refine fn_opF (P.fn 50 (by decide)).1 P.nolimit (xs := ["rows"]) (fun pm cd doc vs h => len1 (vs := vs) h fun _ => rfl) fun Q hQ => ?_
  refine W.sub [("rows", LV.val (mat U M))] (by walk_at "subs") (WXs.cons (WX.ret ?_))
  refine WE.map ⟨by decide, by decide, by decide, by decide⟩ ?_
  walk_at "wi"
  walk_at "ws"
  all_goals try (first | (with_reducible first | exact nq25 | exact nq26) | walk_at "nm")
  refine ⟨[("rows", LV.val (mat U M))], fun i => LR 3 fun j => Z U (M j i), by walk_at "subs", by walk_at "caps", by decide, fun i hi => ?_, hQ _ _ (.ret rfl)⟩
  try dsimp only
  refine WE.map ⟨by decide, by decide, by decide, by decide⟩ ?_
  walk_at "wi"
  walk_at "ws"
  all_goals try walk_at "nm"
  simp only [LR_len]
  refine ⟨[("at", LV.val (.int (i : Int)))], fun j => Z U (M j i), by walk_at "subs", by walk_at "caps", by decide, fun j hj => ?_, rfl, by walk_at "subs"⟩
  try dsimp only
  rw [LR_get hj]
  walk_at "ws"
  all_goals try (first | exact nq2 | walk_at "nm")
  walk_at "subs"
end

end

section
/-- every number of the grid is below 2 ^ b -/
def Bd (b : Nat) (M : Nat → Nat → Int) : Prop := ∀ i j, i < 3 → j < 3 → (M i j).natAbs < 2 ^ b
noncomputable def pa : Nat → Nat | 0 => 0 | 1 => 0 | _ => 1
noncomputable def pb : Nat → Nat | 0 => 1 | _ => 2
noncomputable def minor (M : Nat → Nat → Int) (r c : Nat) : Int := M (pa r) (pa c) * M (pb r) (pb c) - M (pa r) (pb c) * M (pb r) (pa c)
noncomputable def mins (M : Nat → Nat → Int) (i : Nat) : List Int := (List.range i).flatMap fun r => (List.range 3).map (minor M r)
noncomputable def ents (M : Nat → Nat → Int) : List Int := (List.range 3).flatMap fun i => (List.range 3).map (M i)
noncomputable def coef (M : Nat → Nat → Int) : Nat → Int | 0 => minor M 2 2 | 1 => 0 - minor M 2 1 | _ => minor M 2 0
noncomputable def part (M : Nat → Nat → Int) : Nat → Int | 0 => 0 | i + 1 => part M i + M 0 i * coef M i
noncomputable abbrev toldD (M : Nat → Nat → Int) : D := .tup [.int (gcdZ (ents M) : Int), .int (gcdZ (mins M 3) : Int), .int ((part M 3).natAbs : Int)]
theorem pa_lt (r : Nat) : pa r < 3 := by unfold pa; split <;> (first | (with_reducible first | exact nq11 | exact nq17) | omega)
theorem pb_lt (r : Nat) : pb r < 3 := by unfold pb; split <;> (first | (with_reducible first | exact nq17 | exact nq18) | omega)
theorem mins_succ (M : Nat → Nat → Int) (i : Nat) : mins M (i + 1) = mins M i ++ (List.range 3).map (minor M i) := by simp [mins, List.range_succ]
theorem mins_len (M : Nat → Nat → Int) (i : Nat) : (mins M i).length = 3 * i := by
  induction i with
  | zero => rfl
  | succ i ih => rw [mins_succ, List.length_append, ih]; simp; (first | exact nq235 | omega)
theorem IL_app (a b : List Int) : IL (a ++ b) = IL a ++ IL b := by simp [IL]
theorem IL_LR (f : Nat → Int) (n : Nat) : (List.range n).map (fun i => D.int (f i)) = IL ((List.range n).map f) := by simp [IL, Function.comp_def]
theorem minor_bd {b : Nat} {M : Nat → Nat → Int} (hM : Bd b M) (r c : Nat) : (minor M r c).natAbs < 2 ^ (b + b + 1) := by
  have q1 : (M (pa r) (pa c) * M (pb r) (pb c)).natAbs < 2 ^ (b + b) := by rw [Int.natAbs_mul, Nat.pow_add]; exact Nat.mul_lt_mul'' (hM _ _ (pa_lt r) (pa_lt c)) (hM _ _ (pb_lt r) (pb_lt c))
  have q2 : (M (pa r) (pb c) * M (pb r) (pa c)).natAbs < 2 ^ (b + b) := by rw [Int.natAbs_mul, Nat.pow_add]; exact Nat.mul_lt_mul'' (hM _ _ (pa_lt r) (pb_lt c)) (hM _ _ (pb_lt r) (pa_lt c))
  rw [Nat.pow_succ]
  unfold minor
  generalize 2 ^ (b + b) = B at *
  (first | exact nq664 q1 q2 | omega)
theorem item_3 {a b c : Int} {i : Nat} (hi : i < 3) : ItemOf (.lst [.int a, .int b, .int c]) (i : Int) (.int ([a, b, c].getD i 0)) := by
  match i, hi with
  | 0, _ => exact item_I (is := [a, b, c]) (j := 0) (by decide) (by simp) (by simp)
  | 1, _ => exact item_I (is := [a, b, c]) (j := 1) (by decide) (by simp) (by simp)
  | 2, _ => exact item_I (is := [a, b, c]) (j := 2) (by decide) (by simp) (by simp)
theorem coef_eq (M : Nat → Nat → Int) {i : Nat} (hi : i < 3) : [minor M 2 2, 0 - minor M 2 1, minor M 2 0].getD i 0 = coef M i := by
  match i, hi with
  | 0, _ => rfl
  | 1, _ => rfl
  | 2, _ => rfl
section
variable {prog : Program} {w : World} {hT : Heap} {os0 : OsState} {fa : Nat → Addr}
noncomputable abbrev pairsD : List D := [.tup [.int 0, .int 1], .tup [.int 0, .int 2], .tup [.int 1, .int 2]]
theorem pairs_at : ∀ i, i < pairsD.length → pairsD[i]? = some (.tup [.int (pa i : Int), .int (pb i : Int)]) := by
  intro i hi
  match i, hi with
  | 0, _ => rfl
  | 1, _ => rfl
  | 2, _ => rfl

theorem told_walk (P : Facts hT fa) {U wd : Nat} (hU : U = 2 ^ wd) (h1 : 1 ≤ wd) (h2 : wd ≤ 16) (M : Nat → Nat → Int) (b : Nat) (hb : b < 2 ^ 16) (hM : Bd b M) (k : Nat) :
    Op prog w hT os0 (k + 2) [mat U M, .int (wd : Int)] (callT (.ref (fa 48))) fun d => d = toldD M := by
  have hW := two_le hU h1
  have lenM : ∀ i j, i < 3 → j < 3 → (lim U (M i j).natAbs).length ≤ b := fun i j hi hj => len_bits hW (hM i j hi hj)
  refine fn_opF (P.fn 48 (by decide)).1 P.nolimit (xs := ["rows", "w"]) (fun pm cd doc vs h => len2 (vs := vs) h fun _ _ => rfl) fun Q hQ => ?_
  refine W.sub [("rows", LV.val (mat U M)), ("w", LV.val (.int (wd : Int)))] (by walk_at "subs") (WXs.mid (fun σ => σ = ([("plain", LV.val (LR 3 fun i => LR 3 fun j => .int (M i j)))] : St)) ?_ ?_)
  · walk_at "ws"
    refine WE.map ⟨by decide, by decide, by decide, by decide⟩ ?_
    walk_at "wi"
    walk_at "ws"
    simp only [LR_len]
    refine ⟨[("w", LV.val (.int (wd : Int)))], fun i => LR 3 fun j => .int (M i j), by walk_at "subs", by walk_at "caps", by decide, fun i hi => ?_, ?_⟩
    · try dsimp only
      rw [LR_get hi]
      refine WE.map ⟨by decide, by decide, by decide, by decide⟩ ?_
      walk_at "wi"
      walk_at "ws"
      simp only [LR_len]
      refine ⟨[("w", LV.val (.int (wd : Int)))], fun j => .int (M i j), by walk_at "subs", by walk_at "caps", by decide, fun j hj => ?_, ?_⟩
      · try dsimp only
        rw [LR_get hj]
        have := lenM i j hi hj
        walk_at "ws"
        · rename_i hc
          refine OpAt.eq (worth_walk P hU h1 h2 _ (by (first | exact nq5 hb this | omega)) 0) (by (first | exact nq12 | omega)) ?_
          walk_at "ws"
          · congr 1; (first | exact nq665 hc | omega)
          · walk_at "subs"
        · rename_i hc
          refine OpAt.eq (worth_walk P hU h1 h2 _ (by (first | exact nq5 hb this | omega)) 0) (by (first | exact nq12 | omega)) ?_
          walk_at "ws"
          · congr 1; (first | exact nq666 hc | omega)
          · walk_at "subs"
      · exact ⟨rfl, by walk_at "subs"⟩
    · exact ⟨trivial, _, by walk_at "subs", rfl⟩
  · rintro σ rfl
    have bm : ∀ r c, (minor M r c).natAbs < 2 ^ (b + b + 1) := fun r c => minor_bd hM r c
    have ok1 : ∀ i j i' j', i < 3 → j < 3 → i' < 3 → j' < 3 → IntMulOk (M i j) (M i' j') := fun i j i' j' a b' c d => mulOk (hM _ _ a b') (hM _ _ c d) (by (first | exact nq42 hb | omega)) (by (first | exact nq42 hb | omega))
    have bc : ∀ i, (coef M i).natAbs < 2 ^ (b + b + 1) := fun i => by
      unfold coef
      split
      · exact bm _ _
      · rw [Int.zero_sub, Int.natAbs_neg]; exact bm _ _
      · exact bm _ _
    with_reducible refine' WXs.mid (fun σ => σ = ([("lesser", LV.own Option.none []), ("pairs", LV.own Option.none pairsD), ("plain", LV.val (LR 3 fun i => LR 3 fun j => .int (M i j)))] : St)) ?_ ?_
    · walk_at "ws"
      all_goals try (first | (with_reducible first | exact nq4 | exact nq8) | walk_at "nm")
      exact ⟨_, by walk_at "subs", rfl⟩
    rintro σ rfl
    refine W.freeze "pairs" (xs := pairsD) rfl (W.sub [("lesser", LV.own Option.none []), ("pairs", LV.val (.lst pairsD)), ("plain", LV.val (LR 3 fun i => LR 3 fun j => .int (M i j)))] (by walk_at "subs") (WXs.cons ?_))
    walk_at "ws"
    refine ⟨fun i => .int (pa i : Int), fun i => .int (pb i : Int), pairs_at, fun i σ => σ = ([("lesser", LV.own Option.none (IL (mins M i))), ("pairs", LV.val (.lst pairsD)), ("plain", LV.val (LR 3 fun i => LR 3 fun j => .int (M i j)))] : St), rfl, ?_, ?_⟩
    · rintro i σ hi rfl
      have hi : i < 3 := hi
      try dsimp only
      have hml := mins_len M i
      walk_at "ws"
      all_goals try first | walk_at "nm" | (rw [IL_len]; omega)
      refine WE.map ⟨by decide, by decide, by decide, by decide⟩ ?_
      walk_at "wi"
      walk_at "ws"
      refine ⟨fun i => .int (pa i : Int), fun i => .int (pb i : Int), pairs_at, [("a", LV.val (.int (pa i : Int))), ("b", LV.val (.int (pb i : Int))), ("plain", LV.val (LR 3 fun i => LR 3 fun j => .int (M i j)))], fun j => .int (minor M i j), by walk_at "subs", by walk_at "caps", by decide, fun j hj => ?_, ?_⟩
      · have := pa_lt i
        have := pb_lt i
        have := pa_lt j
        have := pb_lt j
        try dsimp only
        walk_at "ws"
        all_goals try first | (first | (with_reducible first | exact nq6 ‹_› | exact nq2 | exact nq6 this) | walk_at "nm") | (apply ok1 <;> assumption)
        · rfl
        · walk_at "subs"
      · refine ⟨by rw [IL_len, LR_len]; rw [sizeLine_is]; show _ + 3 ≤ _; (first | exact nq668 hi hml | omega), rfl, ?_⟩
        try dsimp only
        walk_at "ws"
        refine TurnF.next _ ?_ rfl
        rw [mins_succ, IL_app, ← IL_LR]
        walk_at "subs"
    · rintro σ rfl
      have hml := mins_len M 3
      try dsimp only
      refine W.freeze "lesser" (xs := IL (mins M 3)) rfl (W.sub [("lesser", LV.val (.lst (IL (mins M 3)))), ("plain", LV.val (LR 3 fun i => LR 3 fun j => .int (M i j)))] (by walk_at "subs") (WXs.cons ?_))
      walk_at "ws"
      all_goals try (first | (with_reducible first | exact nq25 | exact nq26) | walk_at "nm")
      refine ⟨fun i σ => σ = ([("whole", LV.val (.int (part M i))), ("lesser", LV.val (.lst (IL (mins M 3)))), ("plain", LV.val (LR 3 fun i => LR 3 fun j => .int (M i j)))] : St), rfl, ?_, ?_⟩
      · rintro i σ hi rfl
        have hi : i < 3 := hi
        try dsimp only
        walk_at "ws"
        all_goals try (first | (with_reducible first | exact nq11 | exact nq2 | exact nq57 ‹_›) | walk_at "nm")
        refine ⟨item_I (by decide) (by (first | exact nq669 hml | omega)) (by (first | exact nq135 hml | omega)), ?_⟩
        rw [show (mins M 3).getD (Int.toNat 8) 0 = minor M 2 2 from rfl]
        walk_at "ws"
        refine ⟨item_I (by decide) (by (first | exact nq670 hml | omega)) (by (first | exact nq135 hml | omega)), ?_⟩
        rw [show (mins M 3).getD (Int.toNat 7) 0 = minor M 2 1 from rfl]
        walk_at "ws"
        refine ⟨item_I (by decide) (by (first | exact nq671 hml | omega)) (by (first | exact nq135 hml | omega)), ?_⟩
        rw [show (mins M 3).getD (Int.toNat 6) 0 = minor M 2 0 from rfl]
        walk_at "ws"
        · rw [sizeLine_is]; simp
        refine ⟨item_3 hi, ?_⟩
        rw [coef_eq M hi]
        walk_at "ws"
        · exact mulOk (hM 0 i (by decide) hi) (bc i) (by (first | exact nq42 hb | omega)) (by (first | exact nq672 hb | omega))
        · exact TurnF.next _ (by walk_at "subs") rfl
      · rintro σ rfl
        try dsimp only
        walk_at "ws"
        all_goals try (first | (with_reducible first | exact nq11 | exact nq2 | exact nq17 | exact nq673 | exact nq18) | walk_at "nm")
        · rw [sizeLine_is]; simp
        rw [show (List.map (fun j => D.int (M 0 j)) (List.range 3) ++ List.map (fun j => D.int (M 1 j)) (List.range 3) ++ List.map (fun j => D.int (M 2 j)) (List.range 3)) = IL (ents M) from rfl]
        refine OpAt.eq (common_walk P _ (show (ents M).length < 2 ^ 20 from by show 9 < _; decide) 0) (by (first | exact nq12 | omega)) ?_
        walk_at "ws"
        refine OpAt.eq (common_walk P _ (by (first | exact nq674 hml | omega)) 0) (by (first | exact nq12 | omega)) ?_
        walk_at "ws"
        · rw [sizeLine_is]; simp
        · rw [show (if part M (Int.toNat 3) < 0 then -part M (Int.toNat 3) else part M (Int.toNat 3)) = ((part M 3).natAbs : Int) by show (if part M 3 < 0 then -part M 3 else part M 3) = _; split <;> (first | (with_reducible first | exact nq91 ‹_› | exact nq92 ‹_›) | omega)]
end

end

section
section
variable {prog : Program} {w : World} {hT : Heap} {os0 : OsState} {fa : Nat → Addr}
noncomputable abbrev zrow (U : Nat) (r : Nat → Int) : D := LR 3 fun j => Z U (r j)
noncomputable def clr (r h : Nat → Int) (c : Nat) (p : Int) (j : Nat) : Int := (r j * h c - r c * h j).tdiv p
theorem LR_snoc (n : Nat) (f : Nat → D) : (List.range n).map f ++ [f n] = (List.range (n + 1)).map f := by simp [List.range_succ]
theorem mul_bits {x y : Int} {a b : Nat} (hx : x.natAbs < 2 ^ a) (hy : y.natAbs < 2 ^ b) : (x * y).natAbs < 2 ^ (a + b) := by rw [Int.natAbs_mul, Nat.pow_add]; exact Nat.mul_lt_mul'' hx hy
theorem sub_bits {x y : Int} {a : Nat} (hx : x.natAbs < 2 ^ a) (hy : y.natAbs < 2 ^ a) : (x - y).natAbs < 2 ^ (a + 1) := by
  rw [Nat.pow_succ]; generalize 2 ^ a = B at *; (first | exact nq449 hx hy | omega)
theorem add_bits {x y : Int} {a : Nat} (hx : x.natAbs < 2 ^ a) (hy : y.natAbs < 2 ^ a) : (x + y).natAbs < 2 ^ (a + 1) := by
  rw [Nat.pow_succ]; generalize 2 ^ a = B at *; (first | exact nq450 hx hy | omega)
theorem tdiv_bits {x y : Int} {a : Nat} (hx : x.natAbs < 2 ^ a) : (x.tdiv y).natAbs < 2 ^ a := by
  rw [Int.natAbs_tdiv]; exact Nat.lt_of_le_of_lt (Nat.div_le_self _ _) hx
theorem clr_bits {r h : Nat → Int} {b c j : Nat} {p : Int} (hr : ∀ j, j < 3 → (r j).natAbs < 2 ^ b) (hh : ∀ j, j < 3 → (h j).natAbs < 2 ^ b) (hc : c < 3) (hj : j < 3) : (clr r h c p j).natAbs < 2 ^ (b + b + 1) :=
  tdiv_bits (sub_bits (mul_bits (hr j hj) (hh c hc)) (mul_bits (hr c hc) (hh j hj)))

theorem cleared_walk (P : Facts hT fa) {U wd : Nat} (hU : U = 2 ^ wd) (h1 : 1 ≤ wd) (h2 : wd ≤ 16) (r h : Nat → Int) (c : Nat) (hc : c < 3) (p : Int) (hp : p ≠ 0) (b : Nat) (hb : b < 2 ^ 20)
    (hr : ∀ j, j < 3 → (r j).natAbs < 2 ^ b) (hh : ∀ j, j < 3 → (h j).natAbs < 2 ^ b) (hpb : p.natAbs < 2 ^ b) (k : Nat) :
    Op prog w hT os0 (k + 7) [zrow U r, zrow U h, .int (c : Int), Z U p, .int (wd : Int), .fn (fa 35), .fn (fa 41)] (callT (.ref (fa 31))) fun d => d = zrow U (clr r h c p) := by
  have hW := two_le hU h1
  have lr : ∀ j, j < 3 → (lim U (r j).natAbs).length ≤ b := fun j hj => len_bits hW (hr j hj)
  have lh : ∀ j, j < 3 → (lim U (h j).natAbs).length ≤ b := fun j hj => len_bits hW (hh j hj)
  have lp : (lim U p.natAbs).length ≤ b := len_bits hW hpb
  refine fn_opF (P.fn 31 (by decide)).1 P.nolimit (xs := ["row", "head", "column", "before", "w", "mul", "divrem"]) (fun pm cd doc vs h => len7 (vs := vs) h fun _ _ _ _ _ _ _ => rfl) fun Q hQ => ?_
  refine W.sub [("row", LV.val (zrow U r)), ("head", LV.val (zrow U h)), ("column", LV.val (.int (c : Int))), ("before", LV.val (Z U p)), ("w", LV.val (.int (wd : Int))), ("mul", LV.val (.fn (fa 35))), ("divrem", LV.val (.fn (fa 41)))] (by walk_at "subs") (WXs.mid (fun σ => σ =
    ([("pivot", LV.val (Z U (h c))), ("own", LV.val (Z U (r c))), ("row", LV.val (zrow U r)), ("head", LV.val (zrow U h)), ("column", LV.val (.int (c : Int))), ("before", LV.val (Z U p)), ("w", LV.val (.int (wd : Int))), ("mul", LV.val (.fn (fa 35))), ("divrem", LV.val (.fn (fa 41)))] : St)) ?_ ?_)
  · walk_at "ws"
    all_goals try (first | (with_reducible first | exact nq6 hc | exact nq2) | walk_at "nm")
    exact ⟨_, by walk_at "subs", rfl⟩
  rintro σ rfl
  with_reducible refine' WXs.cons ?_
  walk_at "ws"
  all_goals try (first | exact nq8 | walk_at "nm")
  refine ⟨fun i σ => σ = ([("found", LV.own Option.none ((List.range i).map fun j => Z U (clr r h c p j))), ("pivot", LV.val (Z U (h c))), ("own", LV.val (Z U (r c))), ("row", LV.val (zrow U r)), ("head", LV.val (zrow U h)), ("column", LV.val (.int (c : Int))), ("before", LV.val (Z U p)), ("w", LV.val (.int (wd : Int))), ("mul", LV.val (.fn (fa 35))), ("divrem", LV.val (.fn (fa 41)))] : St), rfl, ?_, ?_⟩
  · rintro i σ hi rfl
    rw [LR_len] at hi
    try dsimp only
    rw [LR_get hi]
    have l1 := lr i hi
    have l2 := lh i hi
    have l3 := lr c hc
    have l4 := lh c hc
    have m1 := mul_bits (hr i hi) (hh c hc)
    have m2 := mul_bits (hr c hc) (hh i hi)
    have m3 := sub_bits m1 m2
    have m1 := len_bits hW m1
    have m2 := len_bits hW m2
    have m3 := len_bits hW m3
    walk_at "ws"
    all_goals try omega
    refine OpAt.eq (s_mul_walk P hU h1 h2 _ _ (by (first | exact nq55 hb l1 | omega)) (by (first | exact nq55 hb l4 | omega)) 0) (by (first | exact nq120 | omega)) ?_
    walk_at "ws"
    all_goals try (first | (with_reducible first | exact nq6 hi | exact nq2) | omega)
    refine OpAt.eq (s_mul_walk P hU h1 h2 _ _ (by (first | exact nq55 hb l3 | omega)) (by (first | exact nq55 hb l2 | omega)) 0) (by (first | exact nq120 | omega)) ?_
    walk_at "ws"
    refine OpAt.eq (s_sub_walk P hU h1 h2 _ _ (by (first | exact nq197 hb m1 | omega)) (by (first | exact nq197 hb m2 | omega)) 0) (by (first | exact nq451 | omega)) ?_
    walk_at "ws"
    · rw [sizeLine_is, LR_len]; (first | exact nq121 hi | omega)
    refine OpAt.eq (exact_walk P hU h1 h2 _ _ (by (first | exact nq452 hb m3 | omega)) (by (first | exact nq55 hb lp | omega)) hp 0) (by (first | exact nq453 | omega)) ?_
    walk_at "ws"
    refine TurnF.next _ ?_ rfl
    rw [← LR_snoc]
    walk_at "subs"
  · rintro σ rfl
    rw [LR_len]
    try dsimp only
    walk_at "ws"
    rfl
end

end

section
section
variable {prog : Program} {w : World} {hT : Heap} {os0 : OsState} {fa : Nat → Addr}
noncomputable abbrev rowsL (U : Nat) (R : Nat → Nat → Int) : List D := (List.range 3).map fun i => zrow U (R i)
def Pivot (R : Nat → Nat → Int) (top c : Nat) (v : Int) : Prop :=
  (v = -1 ∧ ∀ r, top ≤ r → r < 3 → R r c = 0) ∨ ∃ s : Nat, v = s ∧ top ≤ s ∧ s < 3 ∧ R s c ≠ 0 ∧ ∀ r, top ≤ r → r < s → R r c = 0
theorem pivot_walk (P : Facts hT fa) {U wd : Nat} (hU : U = 2 ^ wd) (h1 : 1 ≤ wd) (h2 : wd ≤ 16) (R : Nat → Nat → Int) (top c : Nat) (ht : top ≤ 3) (hc : c < 3) (b : Nat) (hb : b < 2 ^ 20) (hR : Bd b R) (k : Nat) :
    OpM prog w hT os0 (k + 2) (.ref (fa 30)) (rowsL U R) [.int (top : Int), .int (c : Int)] fun d xs' => xs' = rowsL U R ∧ ∃ v, d = .int v ∧ Pivot R top c v := by
  have hW := two_le hU h1
  have lr : ∀ i j, i < 3 → j < 3 → (lim U (R i j).natAbs).length ≤ b := fun i j hi hj => len_bits hW (hR i j hi hj)
  refine fn_opMF (P.fn 30 (by decide)).1 P.nolimit (x0 := "rows") (xs := ["top", "column"]) (fun pm cd doc v vs h => lenM2 (vs := vs) h fun _ _ => rfl) fun a Q hQ => ?_
  refine W.sub [("rows", LV.own (some a) (rowsL U R)), ("top", LV.val (.int (top : Int))), ("column", LV.val (.int (c : Int)))] (by walk_at "subs") (WXs.cons ?_)
  walk_at "ws"
  all_goals try first | (first | (with_reducible first | exact nq3 | exact nq441 ht) | omega) | (rw [LR_len]; (first | (with_reducible first | exact nq2 | exact nq194) | omega))
  refine ⟨fun i σ => σ = ([("rows", LV.own (some a) (rowsL U R)), ("top", LV.val (.int (top : Int))), ("column", LV.val (.int (c : Int)))] : St) ∧ ∀ r, top ≤ r → r < top + i → R r c = 0, ⟨rfl, fun r h1 h2 => by (first | exact nq442 h1 h2 | omega)⟩, ?_, ?_⟩
  · rintro i σ hi ⟨rfl, hz⟩
    rw [LR_len] at hi
    have hi2 : top + i < 3 := by (first | exact nq443 hi | omega)
    try dsimp only
    walk_at "ws"
    all_goals try (first | (with_reducible first | exact nq444 | exact nq445 hi | exact nq14 | exact nq6 hc | exact nq2) | omega)
    rw [show ((top : Int) + (i : Int)).toNat = top + i by (first | exact nq446 | omega)]
    refine OpAt.eq (s_sign_walk P hW _ (Nat.lt_of_le_of_lt (lr (top + i) c hi2 hc) (by (first | exact nq118 hb | omega))) 0) (by (first | exact nq12 | omega)) ?_
    walk_at "ws"
    · rename_i hne
      refine ⟨_, rfl, rfl, _, rfl, .inr ⟨top + i, by (first | exact nq195 | omega), by (first | exact nq196 | omega), hi2, fun e => ?_, fun r h1 h2 => hz r h1 h2⟩⟩
      rw [e] at hne; simp at hne
    · rename_i he
      have e : R (top + i) c = 0 := by
        by_cases h0 : R (top + i) c = 0
        · exact h0
        · rw [if_neg h0] at he; split at he <;> simp at he
      refine TurnF.next _ ?_ ⟨rfl, fun r h1 h2 => ?_⟩
      · walk_at "subs"
      · rcases Nat.lt_or_ge r (top + i) with h | h
        · exact hz r h1 h
        · rw [show r = top + i by (first | exact nq447 h2 h | omega)]; exact e
  · rintro σ ⟨rfl, hz⟩
    rw [LR_len] at hz
    try dsimp only
    walk_at "ws"
    exact ⟨_, rfl, rfl, _, rfl, .inl ⟨rfl, fun r h1 h2 => hz r h1 (by (first | exact nq448 h2 | omega))⟩⟩
end

end

section
section
variable {prog : Program} {w : World} {hT : Heap} {os0 : OsState} {sc : Scope} {k : Nat} {σ : St}
inductive KMapL (prog : Program) (w : World) (hT : Heap) (os0 : OsState) (k : Nat) (sc : Scope) (elt : Expr) (scope : Scope) (Q : LV → St → Prop) (n : Nat) (bT : Nat → St → St) (σ1 : St) : Prop where
  | mk (σc : St) (f : Nat → D) : Sub σc σ1 → (∀ p ∈ σc, capt scope p.1 = true) → n ≤ sizeLine →
      (∀ i, i < n → WE prog w hT os0 k (relS scope sc) elt (bT i σc) fun d σ' => d = f i ∧ Sub σc σ') → Q (.own Option.none ((List.range n).map f)) (σc ++ σ1.filter fun p => !capt scope p.1) → KMapL prog w hT os0 k sc elt scope Q n bT σ1
theorem WL.map {elt target iter : Expr} {scope : Scope} {pos : Pos} {Q : LV → St → Prop}
    (C : CompScope scope sc)
    (h : WI prog w hT os0 k sc (relS scope sc) target iter σ (KMapL prog w hT os0 k sc elt scope Q))
    (hs : (kindE iter != 4) = true := by rfl) :
    WL prog w hT os0 k sc (.ListComp elt [⟨target, iter, [], 0⟩] scope pos) σ Q :=
  WL.comp C (WI.mono h fun n bT σ1 ⟨σc, f, b1, b2, b3, b4, b5⟩ => ⟨σc, fun σe xs => σe = σc ∧ xs = (List.range n).map f, b1, b2,
      (CLoop.one (fun i σe xs => σe = σc ∧ xs = (List.range i).map f) ⟨rfl, rfl⟩ (fun i σ' xs hi ⟨_, e⟩ => by rw [e]; simp; (first | exact nq156 b3 hi | omega)) fun i σ' xs hi ⟨e1, e2⟩ => by
        subst e1 e2
        exact (b4 i hi).mono fun d σ'' ⟨e, hsub⟩ => ⟨_, hsub, rfl, by rw [e, List.range_succ, List.map_append]; rfl⟩),
      fun σe xs ⟨e1, e2⟩ => by subst e1 e2; exact ⟨_, Sub.self b1, b2, b5⟩⟩) hs
theorem pySlice_all {α : Type} (xs : List α) : pySlice xs none none = xs := by simp [pySlice, lowB, highB]
theorem LR_set (n i : Nat) (f : Nat → D) (d : D) : ((List.range n).map f).set i d = (List.range n).map fun k => if k = i then d else f k := by
  apply List.ext_getElem?
  intro k
  rw [List.getElem?_set]
  by_cases hk : k < n
  · by_cases e : i = k
    · subst e; simp [hk]
    · rw [if_neg e]; simp [hk, Ne.symm e]
  · by_cases e : i = k
    · subst e; simp [hk]
    · rw [if_neg e]; simp [hk]
end
structure BSt where
  R : Nat → Nat → Int
  pl : List Nat
  odd : Bool
  p : Int
noncomputable def swapR (R : Nat → Nat → Int) (a b : Nat) : Nat → Nat → Int := fun r => if r = a then R b else if r = b then R a else R r
/-- the rounds of Bareiss' elimination -/
inductive Rounds (M : Nat → Nat → Int) : Nat → BSt → Prop where
  | start : Rounds M 0 ⟨M, [], false, 1⟩
  | skip {c : Nat} {s : BSt} : Rounds M c s → (∀ r, s.pl.length ≤ r → r < 3 → s.R r c = 0) → Rounds M (c + 1) s
  | go {c : Nat} {s : BSt} (t : Nat) : Rounds M c s → s.pl.length ≤ t → t < 3 → s.R t c ≠ 0 → (∀ r, s.pl.length ≤ r → r < t → s.R r c = 0) →
      Rounds M (c + 1) ⟨fun r j => if s.pl.length < r then clr (swapR s.R s.pl.length t r) (s.R t) c s.p j else swapR s.R s.pl.length t r j, s.pl ++ [c], if t = s.pl.length then s.odd else !s.odd, s.R t c⟩
theorem swapR_top (R : Nat → Nat → Int) (a b : Nat) : swapR R a b a = R b := by simp [swapR]
theorem swapR_same (R : Nat → Nat → Int) (a : Nat) : swapR R a a = R := by funext r; unfold swapR; split <;> simp_all
theorem Bd.swap {b : Nat} {R : Nat → Nat → Int} (h : Bd b R) {s t : Nat} (hs : s < 3) (ht : t < 3) : Bd b (swapR R s t) := by
  intro i j hi hj
  unfold swapR
  split
  · exact h _ _ ht hj
  · split
    · exact h _ _ hs hj
    · exact h _ _ hi hj
noncomputable def bb (b : Nat) : Nat → Nat | 0 => b | c + 1 => bb b c + bb b c + 1
theorem bb_mono (b : Nat) : ∀ c, b ≤ bb b c
  | 0 => Nat.le_refl _
  | c + 1 => by have := bb_mono b c; show b ≤ bb b c + bb b c + 1; (first | exact nq454 this | omega)
theorem bb_le (b c : Nat) (hc : c ≤ 3) : bb b c ≤ 8 * b + 7 := by
  match c, hc with
  | 0, _ => show b ≤ _; (first | exact nq455 | omega)
  | 1, _ => show b + b + 1 ≤ _; (first | exact nq456 | omega)
  | 2, _ => show (b + b + 1) + (b + b + 1) + 1 ≤ _; (first | exact nq457 | omega)
  | 3, _ => show ((b + b + 1) + (b + b + 1) + 1) + ((b + b + 1) + (b + b + 1) + 1) + 1 ≤ _; (first | exact nq458 | omega)
theorem Bd.mono {a b : Nat} {R : Nat → Nat → Int} (h : Bd a R) (hab : a ≤ b) : Bd b R := fun i j hi hj => Nat.lt_of_lt_of_le (h i j hi hj) (Nat.pow_le_pow_right (by decide) hab)
theorem Rounds.bd {M : Nat → Nat → Int} {b : Nat} (hb : 1 ≤ b) (hM : Bd b M) : ∀ {c : Nat} {s : BSt}, Rounds M c s → c ≤ 3 → Bd (bb b c) s.R ∧ s.p ≠ 0 ∧ s.p.natAbs < 2 ^ bb b c ∧ s.pl.length ≤ c := by
  intro c s h
  induction h with
  | start => exact fun _ => ⟨hM, by show (1 : Int) ≠ 0; decide, by show 1 < 2 ^ b; exact Nat.one_lt_two_pow (by (first | exact nq51 hb | omega)), Nat.le_refl _⟩
  | @skip c s _ _ ih =>
    intro hc
    obtain ⟨h1, h2, h3, h4⟩ := ih (by (first | exact nq73 hc | omega))
    have hle : bb b c ≤ bb b (c + 1) := by show bb b c ≤ bb b c + bb b c + 1; (first | exact nq111 | omega)
    exact ⟨h1.mono hle, h2, Nat.lt_of_lt_of_le h3 (Nat.pow_le_pow_right (by decide) hle), by omega⟩
  | @go c s t _ ht h3 hne hz ih =>
    intro hc
    obtain ⟨i1, i2, i3, i4⟩ := ih (by (first | exact nq73 hc | omega))
    have hle : bb b c ≤ bb b (c + 1) := by show bb b c ≤ bb b c + bb b c + 1; (first | exact nq111 | omega)
    refine ⟨fun i j hi hj => ?_, hne, Nat.lt_of_lt_of_le (i1 t c h3 (by (first | exact nq198 hc | omega))) (Nat.pow_le_pow_right (by decide) hle), by simp; omega⟩
    have hsw := i1.swap (show s.pl.length < 3 by (first | exact nq459 ht h3 | omega)) h3
    try dsimp only
    split
    · exact clr_bits (fun j hj => hsw i j hi hj) (fun j hj => i1 t j h3 hj) (by (first | exact nq198 hc | omega)) hj
    · exact hsw.mono hle i j hi hj
section
variable {prog : Program} {w : World} {hT : Heap} {os0 : OsState} {fa : Nat → Addr} {U : Nat}
theorem zrow_congr {r r' : Nat → Int} (h : ∀ j, r j = r' j) : zrow U r = zrow U r' := by rw [show r = r' from funext h]
theorem rowsL_congr {R R' : Nat → Nat → Int} (h : ∀ i j, i < 3 → R i j = R' i j) : rowsL U R = rowsL U R' := List.map_congr_left fun i hi => zrow_congr fun j => h i j (List.mem_range.mp hi)
noncomputable abbrev stepsSt (fa : Nat → Addr) (U wd : Nat) (s : BSt) : St := [("rows", LV.own Option.none (rowsL U s.R)), ("places", LV.own Option.none (NL s.pl)), ("is_odd", LV.val (.bool s.odd)), ("before", LV.val (Z U s.p)), ("w", LV.val (.int (wd : Int))), ("mul", LV.val (.fn (fa 35))), ("divrem", LV.val (.fn (fa 41))), ("columns", LV.val (.int 3))]
theorem steps_walk (P : Facts hT fa) {U wd : Nat} (hU : U = 2 ^ wd) (h1 : 1 ≤ wd) (h2 : wd ≤ 16) (M : Nat → Nat → Int) (b : Nat) (hb1 : 1 ≤ b) (hb : b < 2 ^ 16) (hM : Bd b M) (k : Nat) :
    Op prog w hT os0 (k + 8) [mat U M, .int 3, .int (wd : Int), .fn (fa 35), .fn (fa 41)] (callT (.ref (fa 32))) fun d => ∃ s, d = .tup [mat U s.R, N s.pl, .bool s.odd] ∧ Rounds M 3 s := by
  have hW := two_le hU h1
  have hunit : D.tup [.bool false, N [1]] = Z U 1 := by unfold Z; rw [show (1 : Int).natAbs = 1 from rfl, lim_small hW (by (first | exact nq48 | omega)) (by (first | exact nq24 hW | omega))]; rfl
  refine fn_opF (P.fn 32 (by decide)).1 P.nolimit (xs := ["a", "columns", "w", "mul", "divrem"]) (fun pm cd doc vs h => len5 (vs := vs) h fun _ _ _ _ _ => rfl) fun Q hQ => ?_
  refine W.sub [("a", LV.val (mat U M)), ("columns", LV.val (.int 3)), ("w", LV.val (.int (wd : Int))), ("mul", LV.val (.fn (fa 35))), ("divrem", LV.val (.fn (fa 41)))] (by walk_at "subs") (WXs.mid (fun σ => σ = stepsSt fa U wd ⟨M, [], false, 1⟩) ?_ ?_)
  · refine WX.quad rfl rfl rfl rfl (by intro env he; cases env; dsimp only at he; subst he; rfl) (WSl.cons rfl (WL.map ⟨by decide, by decide, by decide, by decide⟩ ?_))
    walk_at "wi"
    walk_at "ws"
    simp only [LR_len]
    refine ⟨[], fun i => zrow U (M i), by walk_at "subs", by walk_at "caps", by decide, fun i hi => ?_, ?_⟩
    · try dsimp only
      rw [LR_get hi]
      with_reducible refine' WE.slice ?_
      walk_at "ws"
      · rw [LR_len]; decide
      · rw [pySlice_all]
      · walk_at "subs"
    · walk_at "ws"
      · decide
      · trivial
      · rw [hunit]
        exact ⟨_, by walk_at "subs", rfl⟩
  rintro σ rfl
  with_reducible refine' WXs.cons ?_
  walk_at "ws"
  all_goals try (first | (with_reducible first | exact nq25 | exact nq26) | omega)
  refine ⟨fun c σ => ∃ s, σ = stepsSt fa U wd s ∧ Rounds M c s, ⟨_, rfl, .start⟩, ?_, ?_⟩
  · rintro c σ hc ⟨s, rfl, hs⟩
    have hc : c < 3 := hc
    have hbb : bb b c < 2 ^ 20 := Nat.lt_of_le_of_lt (bb_le b c (by (first | exact nq199 ‹_› | omega))) (by (first | exact nq200 hb | omega))
    obtain ⟨i1, i2, i3, i4⟩ := hs.bd hb1 hM (by (first | exact nq199 ‹_› | omega))
    try dsimp only
    walk_at "ws"
    · rw [N_len]; (first | exact nq460 ‹_› i4 | omega)
    rw [N_len]
    refine ⟨2, by (first | exact nq461 | omega), (pivot_walk P hU h1 h2 s.R s.pl.length c (by (first | exact nq462 ‹_› i4 | omega)) hc (bb b c) hbb i1 0).mono ?_⟩
    rintro d xs' ⟨rfl, v, rfl, hp⟩
    rcases hp with ⟨rfl, hz⟩ | ⟨t, rfl, hlt, ht3, hne, hz⟩
    · walk_at "ws"
      all_goals try omega
      exact TurnF.next _ (by walk_at "subs") ⟨s, rfl, hs.skip hz⟩
    · with_reducible refine' KThen.next ?_
      with_reducible refine' WXs.cons (WX.ifs (WB.cmp ?sa ?_))
      case sa => with_unfolding_all rfl
      iterate 5 walk_at "s"
      all_goals try omega
      have hsw := i1.swap (show s.pl.length < 3 by (first | exact nq463 ‹_› i4 | omega)) ht3
      have htop : (swapR s.R s.pl.length t) s.pl.length = s.R t := swapR_top _ _ _
      have sg := fun d => LR_set 3 s.pl.length (fun i => zrow U (s.R i)) d
      with_reducible refine' WXs.mid (fun σ => σ = ([("rows", LV.own Option.none (rowsL U (swapR s.R s.pl.length t))), ("is_odd", LV.val (.bool (if t = s.pl.length then s.odd else !s.odd))), ("top", LV.val (.int (s.pl.length : Int))), ("column", LV.val (.int (c : Int))), ("places", LV.own Option.none (NL s.pl)), ("before", LV.val (Z U s.p)), ("w", LV.val (.int (wd : Int))), ("mul", LV.val (.fn (fa 35))), ("divrem", LV.val (.fn (fa 41))), ("columns", LV.val (.int 3))] : St)) ?_ ?_
      · walk_at "ws"
        · refine WX.setTwo ?_ (by intro env he; cases env; dsimp only at he; subst he; rfl) rfl
          walk_at "ws"
          all_goals try first | (first | (with_reducible first | exact nq3 | exact nq201 ht3 | exact nq14 | exact nq82 ‹_› i4) | omega) | (rw [sizeLine_is]; simp; done)
          rename_i hne2 _ _
          refine ⟨_, rowsL U s.R, rfl, Idx.mk fun a => WE.name rfl (.mk ⟨by (first | exact nq3 | omega), by rw [LR_len]; (first | exact nq82 ‹_› i4 | omega), by (first | exact nq464 ‹_› i4 | omega), Idx.mk fun a' => WE.name rfl (.mk ⟨by (first | exact nq3 | omega), by rw [List.length_set, LR_len]; (first | exact nq201 ht3 | omega), by (first | exact nq465 ht3 | omega), ?_⟩)⟩)⟩
          rw [Int.toNat_natCast, Int.toNat_natCast, LR_set, LR_set, show (List.range 3).map (fun k => if k = t then zrow U (s.R s.pl.length) else if k = s.pl.length then zrow U (s.R t) else zrow U (s.R k)) = rowsL U (swapR s.R s.pl.length t) from List.map_congr_left fun k _ => by
            unfold swapR
            by_cases e : k = t
            · subst e; rw [if_pos rfl, if_neg (by (first | exact nq202 hne2 | omega)), if_pos rfl]
            · rw [if_neg e]
              by_cases e2 : k = s.pl.length
              · rw [if_pos e2, if_pos e2]
              · rw [if_neg e2, if_neg e2, if_neg e]]
          walk_at "ws"
          refine ⟨_, ?_, rfl⟩
          rw [if_neg (show ¬ t = s.pl.length by (first | exact nq202 hne2 | omega))]
          walk_at "subs"
        · rename_i he
          have he : t = s.pl.length := by (first | exact nq56 he | omega)
          refine ⟨_, ?_, rfl⟩
          rw [if_pos he, ← he, swapR_same]
          walk_at "subs"
      · rintro σ rfl
        have bdt : ∀ j, j < 3 → (s.R t j).natAbs < 2 ^ bb b c := fun j hj => i1 t j ht3 hj
        with_reducible refine' WXs.cons ?_
        walk_at "ws"
        all_goals try first | (first | (with_reducible first | exact nq83 | exact nq466 ‹_› i4 | exact nq3) | omega) | (rw [LR_len]; (first | (with_reducible first | exact nq2 | exact nq194) | omega))
        refine ⟨fun i σ => σ = ([("rows", LV.own Option.none (rowsL U fun r j => if s.pl.length < r ∧ r < s.pl.length + 1 + i then clr (swapR s.R s.pl.length t r) (s.R t) c s.p j else swapR s.R s.pl.length t r j)), ("is_odd", LV.val (.bool (if t = s.pl.length then s.odd else !s.odd))), ("top", LV.val (.int (s.pl.length : Int))), ("column", LV.val (.int (c : Int))), ("places", LV.own Option.none (NL s.pl)), ("before", LV.val (Z U s.p)), ("w", LV.val (.int (wd : Int))), ("mul", LV.val (.fn (fa 35))), ("divrem", LV.val (.fn (fa 41))), ("columns", LV.val (.int 3))] : St), ?_, ?_, ?_⟩
        · have : (fun r j => if s.pl.length < r ∧ r < s.pl.length + 1 + 0 then clr (swapR s.R s.pl.length t r) (s.R t) c s.p j else swapR s.R s.pl.length t r j) = swapR s.R s.pl.length t := by
            funext r j; rw [if_neg (by (first | exact nq467 | omega))]
          show _ = _
          rw [this]
        · rintro i σ hi rfl
          rw [LR_len] at hi
          have hi2 : s.pl.length + 1 + i < 3 := by (first | exact nq468 hi | omega)
          try dsimp only
          walk_at "ws"
          all_goals try (first | (with_reducible first | exact nq203 | exact nq204 hi | exact nq14 | exact nq3 | exact nq82 ‹_› i4) | omega)
          try dsimp only
          have ea : (fun j => if s.pl.length < s.pl.length + 1 + i ∧ s.pl.length + 1 + i < s.pl.length + 1 + i then clr (swapR s.R s.pl.length t (s.pl.length + 1 + i)) (s.R t) c s.p j else swapR s.R s.pl.length t (s.pl.length + 1 + i) j) = swapR s.R s.pl.length t (s.pl.length + 1 + i) := by
            funext j; rw [if_neg (by (first | exact nq469 | omega))]
          have eb : (fun j => if s.pl.length < s.pl.length ∧ s.pl.length < s.pl.length + 1 + i then clr (swapR s.R s.pl.length t s.pl.length) (s.R t) c s.p j else swapR s.R s.pl.length t s.pl.length j) = s.R t := by
            funext j; rw [if_neg (by (first | exact nq470 | omega)), htop]
          rw [show ((s.pl.length : Int) + 1 + (i : Int)).toNat = s.pl.length + 1 + i by (first | exact nq205 | omega), Int.toNat_natCast, ea, eb]
          refine OpAt.eq (cleared_walk P hU h1 h2 _ _ c hc s.p i2 (bb b c) hbb (fun j hj => hsw _ j hi2 hj) bdt i3 0) (by (first | exact nq471 | omega)) ?_
          walk_at "ws"
          all_goals try first | (first | (with_reducible first | exact nq203 | exact nq472 hi) | omega) | (rw [LR_len]; (first | exact nq204 hi | omega))
          refine TurnF.next _ ?_ rfl
          rw [show ((s.pl.length : Int) + 1 + (i : Int)).toNat = s.pl.length + 1 + i by (first | exact nq205 | omega), LR_set,
            show (List.range 3).map (fun k => if k = s.pl.length + 1 + i then zrow U (clr (swapR s.R s.pl.length t (s.pl.length + 1 + i)) (s.R t) c s.p) else zrow U fun j => if s.pl.length < k ∧ k < s.pl.length + 1 + i then clr (swapR s.R s.pl.length t k) (s.R t) c s.p j else swapR s.R s.pl.length t k j)
              = rowsL U fun r j => if s.pl.length < r ∧ r < s.pl.length + 1 + (i + 1) then clr (swapR s.R s.pl.length t r) (s.R t) c s.p j else swapR s.R s.pl.length t r j from List.map_congr_left fun k _ => by
                by_cases e : k = s.pl.length + 1 + i
                · subst e; rw [if_pos rfl]
                  refine zrow_congr fun x => ?_
                  try dsimp only
                  rw [if_pos (by (first | exact nq473 | omega))]
                · rw [if_neg e]
                  refine zrow_congr fun x => ?_
                  try dsimp only
                  by_cases h : s.pl.length < k ∧ k < s.pl.length + 1 + i
                  · rw [if_pos h, if_pos (by (first | exact nq474 h | omega))]
                  · rw [if_neg h, if_neg (by (first | exact nq475 e h | omega))]]
          walk_at "subs"
        · rintro σ rfl
          rw [LR_len]
          have e3 : (((3 : Nat) : Int) - ((s.pl.length : Int) + 1)).toNat = 2 - s.pl.length := by (first | exact nq476 | omega)
          rw [e3]
          try dsimp only
          walk_at "ws"
          all_goals try first | (first | (with_reducible first | exact nq3 | exact nq82 ‹_› i4 | exact nq14 | exact nq57 ‹_› | exact nq2) | omega) | (rw [N_len, sizeLine_is]; (first | exact nq477 ‹_› i4 | omega))
          rw [NL_snoc rfl]
          refine TurnF.next _ ?_ ⟨_, rfl, hs.go t hlt ht3 hne hz⟩
          try dsimp only
          have ec : (rowsL U fun r j => if s.pl.length < r ∧ r < s.pl.length + 1 + (2 - s.pl.length) then clr (swapR s.R s.pl.length t r) (s.R t) c s.p j else swapR s.R s.pl.length t r j) = rowsL U fun r j => if s.pl.length < r then clr (swapR s.R s.pl.length t r) (s.R t) c s.p j else swapR s.R s.pl.length t r j := rowsL_congr fun r j hr => by
            by_cases h : s.pl.length < r
            · rw [if_pos h, if_pos (by (first | exact nq478 hr h | omega))]
            · rw [if_neg h, if_neg (by (first | exact nq479 h | omega))]
          rw [ec, Int.toNat_natCast, if_neg (show ¬ (s.pl.length < s.pl.length ∧ s.pl.length < s.pl.length + 1 + (2 - s.pl.length)) by (first | exact nq480 | omega)), htop]
          walk_at "subs"
  · rintro σ ⟨s, rfl, hs⟩
    try dsimp only
    walk_at "ws"
    · rw [sizeLine_is]; simp
    · exact ⟨s, rfl, hs⟩
end

end

section
noncomputable def sgn (b : Bool) : Int := if b then -1 else 1
noncomputable def det3 (M : Nat → Nat → Int) : Int := part M 3
theorem det3_eq (M : Nat → Nat → Int) : det3 M = M 0 0 * (M 1 1 * M 2 2 - M 1 2 * M 2 1) - M 0 1 * (M 1 0 * M 2 2 - M 1 2 * M 2 0) + M 0 2 * (M 1 0 * M 2 1 - M 1 1 * M 2 0) := by
  show 0 + M 0 0 * (M 1 1 * M 2 2 - M 1 2 * M 2 1) + M 0 1 * (0 - (M 1 0 * M 2 2 - M 1 2 * M 2 0)) + M 0 2 * (M 1 0 * M 2 1 - M 1 1 * M 2 0) = _
  grind
/-- what a round leaves -/
def GoodR (M : Nat → Nat → Int) : Nat → BSt → Prop
  | 0, s => s.R = M ∧ s.p = 1 ∧ s.odd = false
  | 1, s => s.p ≠ 0 ∧ s.R 1 1 * s.R 2 2 - s.R 1 2 * s.R 2 1 = sgn s.odd * det3 M * s.p
  | _, s => s.R 2 2 = sgn s.odd * det3 M
theorem swap_1 (R : Nat → Nat → Int) (j : Nat) : swapR R 0 0 1 j = R 1 j ∧ swapR R 0 0 2 j = R 2 j ∧ swapR R 0 1 1 j = R 0 j ∧ swapR R 0 1 2 j = R 2 j ∧ swapR R 0 2 1 j = R 1 j ∧ swapR R 0 2 2 j = R 0 j := ⟨rfl, rfl, rfl, rfl, rfl, rfl⟩
theorem swap_2 (R : Nat → Nat → Int) (j : Nat) : swapR R 1 1 2 j = R 2 j ∧ swapR R 1 2 2 j = R 1 j ∧ swapR R 2 2 2 j = R 2 j := ⟨rfl, rfl, rfl⟩
theorem tdiv_mul {x p : Int} (hp : p ≠ 0) : (x * p).tdiv p = x := Int.mul_tdiv_cancel _ hp
theorem rounds_det {M : Nat → Nat → Int} : ∀ {c : Nat} {s : BSt}, Rounds M c s → c ≤ 3 → (s.pl.length < c ∧ det3 M = 0) ∨ (s.pl.length = c ∧ GoodR M c s) := by
  intro c s h
  induction h with
  | start => exact fun _ => .inr ⟨rfl, rfl, rfl, rfl⟩
  | @skip c s _ hz ih =>
    intro hc
    rcases ih (by (first | exact nq73 hc | omega)) with ⟨h1, h2⟩ | ⟨h1, h2⟩
    · exact .inl ⟨by omega, h2⟩
    · refine .inl ⟨by omega, ?_⟩
      rw [h1] at hz
      match c, hc, h2, hz with
      | 0, _, ⟨e1, e2, e3⟩, hz =>
        have a0 := hz 0 (by (first | exact nq334 | omega)) (by (first | exact nq11 | omega))
        have a1 := hz 1 (by (first | exact nq33 | omega)) (by (first | exact nq17 | omega))
        have a2 := hz 2 (by (first | exact nq335 | omega)) (by (first | exact nq18 | omega))
        rw [e1] at a0 a1 a2
        rw [det3_eq, a0, a1, a2]; grind
      | 1, _, ⟨e1, e2⟩, hz =>
        have a1 := hz 1 (by (first | exact nq74 | omega)) (by (first | exact nq17 | omega))
        have a2 := hz 2 (by (first | exact nq336 | omega)) (by (first | exact nq18 | omega))
        rw [a1, a2] at e2
        have e3 : sgn s.odd * det3 M * s.p = 0 := by rw [← e2]; grind
        rcases Int.mul_eq_zero.mp e3 with q | q
        · rcases Int.mul_eq_zero.mp q with q | q
          · unfold sgn at q; split at q <;> (first | (with_reducible first | exact nq75 q | exact nq76 q) | omega)
          · exact q
        · exact absurd q e1
      | 2, _, e, hz =>
        have a2 := hz 2 (by (first | exact nq337 | omega)) (by (first | exact nq18 | omega))
        have e : s.R 2 2 = sgn s.odd * det3 M := e
        rw [a2] at e
        rcases Int.mul_eq_zero.mp e.symm with q | q
        · unfold sgn at q; split at q <;> (first | (with_reducible first | exact nq75 q | exact nq76 q) | omega)
        · exact q
  | @go c s t _ ht h3 hne hz ih =>
    intro hc
    rcases ih (by (first | exact nq73 hc | omega)) with ⟨h1, h2⟩ | ⟨h1, h2⟩
    · exact .inl ⟨by simp; (first | exact nq164 h1 | omega), h2⟩
    · refine .inr ⟨by simp; (first | exact nq338 h1 | omega), ?_⟩
      rw [h1] at ht
      match c, hc, h2 with
      | 0, _, ⟨e1, e2, e3⟩ =>
        refine ⟨hne, ?_⟩
        try dsimp only
        rw [h1, e1, e2, e3]
        rw [e1] at hne
        simp only [show (0 : Nat) < 1 from by (first | exact nq48 | omega), show (0 : Nat) < 2 from by (first | exact nq339 | omega), if_true, clr, Int.tdiv_one, det3_eq]
        match t, h3 with
        | 0, _ => simp only [(swap_1 M _).1, (swap_1 M _).2.1, sgn]; grind
        | 1, _ => simp only [(swap_1 M _).2.2.1, (swap_1 M _).2.2.2.1, sgn]; grind
        | 2, _ => simp only [(swap_1 M _).2.2.2.2.1, (swap_1 M _).2.2.2.2.2, sgn]; grind
      | 1, _, ⟨e1, e2⟩ =>
        show (if s.pl.length < 2 then clr (swapR s.R s.pl.length t 2) (s.R t) 1 s.p 2 else swapR s.R s.pl.length t 2 2) = sgn (if t = s.pl.length then s.odd else !s.odd) * det3 M
        rw [h1, if_pos (by (first | exact nq340 | omega))]
        match t, ht, h3 with
        | 1, _, _ =>
          rw [if_pos rfl]
          have : clr (swapR s.R 1 1 2) (s.R 1) 1 s.p 2 = (sgn s.odd * det3 M * s.p).tdiv s.p := by
            rw [← e2]; unfold clr; congr 1; rw [(swap_2 s.R _).1, (swap_2 s.R _).1]; grind
          rw [this, tdiv_mul e1]
        | 2, _, _ =>
          rw [if_neg (by (first | exact nq341 | omega))]
          have : clr (swapR s.R 1 2 2) (s.R 2) 1 s.p 2 = (sgn (!s.odd) * det3 M * s.p).tdiv s.p := by
            have e3 : sgn (!s.odd) = - sgn s.odd := by cases s.odd <;> rfl
            rw [e3, show -sgn s.odd * det3 M * s.p = -(sgn s.odd * det3 M * s.p) by grind, ← e2]; unfold clr; congr 1; rw [(swap_2 s.R _).2.1, (swap_2 s.R _).2.1]; grind
          rw [this, tdiv_mul e1]
      | 2, _, e =>
        show (if s.pl.length < 2 then clr (swapR s.R s.pl.length t 2) (s.R t) 2 s.p 2 else swapR s.R s.pl.length t 2 2) = sgn (if t = s.pl.length then s.odd else !s.odd) * det3 M
        rw [h1, if_neg (by (first | exact nq342 | omega))]
        have : t = 2 := by (first | exact nq343 h3 ht | omega)
        subst this
        rw [if_pos rfl, (swap_2 s.R _).2.2]
        exact e

end

section
section
variable {prog : Program} {w : World} {hT : Heap} {os0 : OsState} {fa : Nat → Addr}
theorem det_walk (P : Facts hT fa) {U wd : Nat} (hU : U = 2 ^ wd) (h1 : 1 ≤ wd) (h2 : wd ≤ 16) (M : Nat → Nat → Int) (b : Nat) (hb1 : 1 ≤ b) (hb : b < 2 ^ 16) (hM : Bd b M) (k : Nat) :
    Op prog w hT os0 (k + 9) [mat U M, .int (wd : Int), .fn (fa 35), .fn (fa 41)] (callT (.ref (fa 33))) fun d => d = Z U (det3 M) := by
  have hW := two_le hU h1
  refine fn_opF (P.fn 33 (by decide)).1 P.nolimit (xs := ["a", "w", "mul", "divrem"]) (fun pm cd doc vs h => len4 (vs := vs) h fun _ _ _ _ => rfl) fun Q hQ => ?_
  refine W.sub [("a", LV.val (mat U M)), ("w", LV.val (.int (wd : Int))), ("mul", LV.val (.fn (fa 35))), ("divrem", LV.val (.fn (fa 41)))] (by walk_at "subs") (WXs.cons ?_)
  walk_at "ws"
  all_goals try first | (rw [LR_len] at *; (first | (with_reducible first | exact nq2 | exact (nq481 ‹_›).elim) | omega))
  rw [LR_len]
  refine ⟨8, by (first | exact nq482 | omega), (steps_walk P hU h1 h2 M b hb1 hb hM 0).mono ?_⟩
  rintro d ⟨s, rfl, hs⟩
  obtain ⟨i1, i2, i3, i4⟩ := hs.bd hb1 hM (by (first | exact nq122 | omega))
  have hbb : bb b 3 < 2 ^ 20 := Nat.lt_of_le_of_lt (bb_le b 3 (by (first | exact nq122 | omega))) (by (first | exact nq200 hb | omega))
  have hdet := rounds_det hs (by (first | exact nq122 | omega))
  have hl := len_bits hW (i1 2 2 (by (first | exact nq18 | omega)) (by (first | exact nq18 | omega)))
  have h0 : D.tup [D.bool false, N []] = Z U 0 := by unfold Z; rw [show (0 : Int).natAbs = 0 from rfl, lim_zero]; rfl
  walk_at "ws"
  all_goals try first | (first | (with_reducible first | exact nq483 i4 | exact nq11 | exact nq2 | exact nq484 i4 ‹_› | exact nq485 ‹_› | exact nq486 i4 ‹_›) | omega) | (rw [LR_len]; (first | exact nq2 | omega))
  · rename_i hc
    rw [LR_len] at hc
    rcases hdet with ⟨_, e⟩ | ⟨e, _⟩
    · rw [e, h0]
    · (first | exact (nq487 hc e).elim | omega)
  · rename_i hc hodd
    rw [LR_len] at hc
    rw [LR_len, show (((3 : Nat) : Int) - 1).toNat = 2 from rfl]
    refine OpAt.eq (s_neg_walk P hW _ (Nat.lt_of_le_of_lt hl (by (first | exact nq118 hbb | omega))) 0) (by (first | exact nq488 | omega)) ?_
    walk_at "ws"
    rcases hdet with ⟨e, _⟩ | ⟨_, e⟩
    · (first | exact (nq489 hc e).elim | omega)
    · have e : s.R 2 2 = sgn s.odd * det3 M := e
      rw [hodd] at e
      congr 1
      rw [e]; unfold sgn; simp
  · rename_i hc hodd
    rw [LR_len] at hc
    rw [LR_len, show (((3 : Nat) : Int) - 1).toNat = 2 from rfl]
    rcases hdet with ⟨e, _⟩ | ⟨_, e⟩
    · (first | exact (nq490 hc e).elim | omega)
    · have e : s.R 2 2 = sgn s.odd * det3 M := e
      rw [hodd] at e
      congr 1
      rw [e]; unfold sgn; simp
end

end

section
noncomputable def joinM (M : Nat → Nat → Int) (at' other : Nat) (a b c d : Int) : Nat → Nat → Int := fun i j =>
  if i = at' then a * M at' j + b * M other j else if i = other then c * M at' j + d * M other j else M i j
/-- what the cofactors of a turn are like -/
structure JF (one two a b c d : Int) : Prop where
  det : a * d - b * c = 1
  zero : c * one + d * two = 0
  kind : (one ≠ 0 ∧ one ∣ two ∧ a = 1 ∧ b = 0 ∧ d = 1) ∨ (¬ (one ≠ 0 ∧ one ∣ two) ∧ a * one + b * two = (Int.gcd one two : Nat))
  ba : a.natAbs ≤ max 1 two.natAbs
  bb : b.natAbs ≤ max 1 one.natAbs
  bc : c.natAbs ≤ max 1 two.natAbs
  bd : d.natAbs ≤ max 1 one.natAbs
theorem JF.div {one two : Int} (h0 : one ≠ 0) (hr : two.tmod one = 0) : JF one two 1 0 (-(two.tdiv one)) 1 := by
  have e : one * two.tdiv one = two := by have := Int.mul_tdiv_add_tmod two one; (first | exact nq318 hr this | omega)
  have hd : one ∣ two := ⟨_, e.symm⟩
  have hb : (-(two.tdiv one)).natAbs ≤ two.natAbs := by
    rw [Int.natAbs_neg, Int.natAbs_tdiv]; exact Nat.div_le_self _ _
  exact ⟨by grind, by grind, .inl ⟨h0, hd, rfl, rfl, rfl⟩, by simp; (first | exact nq157 | omega), by simp, by (first | exact nq158 hb | omega), by simp; (first | exact nq157 | omega)⟩
theorem JF.gcd {one two s t : Int} {g : Nat} (hgg : g = Nat.gcd one.natAbs two.natAbs) (hn : ¬ (one ≠ 0 ∧ one ∣ two)) (h2 : two ≠ 0) (hg : s * one.natAbs + t * two.natAbs = g) (hs : s.natAbs ≤ max 1 two.natAbs) (ht : t.natAbs ≤ max 1 one.natAbs) :
    JF one two (if one < 0 then -s else s) (if two < 0 then -t else t) (-(two.tdiv g)) (one.tdiv g) := by
  have hpos : 0 < g := hgg ▸ Nat.gcd_pos_of_pos_right _ (by (first | exact nq46 h2 | omega))
  have d1 : (g : Int) ∣ one := hgg ▸ Int.ofNat_dvd_left.mpr (Nat.gcd_dvd_left _ _)
  have d2 : (g : Int) ∣ two := hgg ▸ Int.ofNat_dvd_left.mpr (Nat.gcd_dvd_right _ _)
  have hgi : Int.gcd one two = g := hgg.symm
  have b1 : (one.tdiv g).natAbs ≤ one.natAbs := by rw [Int.natAbs_tdiv]; exact Nat.div_le_self _ _
  have b2 : (-(two.tdiv g)).natAbs ≤ two.natAbs := by rw [Int.natAbs_neg, Int.natAbs_tdiv]; exact Nat.div_le_self _ _
  have e1 : (g : Int) * one.tdiv g = one := Int.mul_tdiv_cancel' d1
  have e2 : (g : Int) * two.tdiv g = two := Int.mul_tdiv_cancel' d2
  clear hgg d1 d2
  generalize one.tdiv g = u at *
  generalize two.tdiv g = v at *
  have hab : (if one < 0 then -s else s) * one + (if two < 0 then -t else t) * two = g := by
    rw [← hg]
    have f1 : (if one < 0 then -s else s) * one = s * one.natAbs := by
      split
      · rw [show ((one.natAbs : Nat) : Int) = -one by (first | exact nq21 ‹_› | omega)]; grind
      · rw [show ((one.natAbs : Nat) : Int) = one by (first | exact nq22 ‹_› | omega)]
    have f2 : (if two < 0 then -t else t) * two = t * two.natAbs := by
      split
      · rw [show ((two.natAbs : Nat) : Int) = -two by (first | exact nq21 ‹_› | omega)]; grind
      · rw [show ((two.natAbs : Nat) : Int) = two by (first | exact nq22 ‹_› | omega)]
    rw [f1, f2]
  have ba : (if one < 0 then -s else s).natAbs ≤ max 1 two.natAbs := by split <;> (first | (with_reducible first | exact nq159 hs | exact nq160 hs) | omega)
  have bb : (if two < 0 then -t else t).natAbs ≤ max 1 one.natAbs := by split <;> (first | (with_reducible first | exact nq159 ht | exact nq160 ht) | omega)
  generalize (if one < 0 then -s else s) = a at *
  generalize (if two < 0 then -t else t) = b at *
  have hdet : a * u - b * -v = 1 := by
    have : (g : Int) * (a * u - b * -v) = g * 1 := by
      rw [← e1, ← e2] at hab; grind
    exact Int.eq_of_mul_eq_mul_left (by (first | exact nq20 hpos | omega)) this
  exact ⟨hdet, by rw [← e1, ← e2]; grind, .inr ⟨hn, by rw [hgi]; exact hab⟩, ba, bb, by (first | exact nq158 b2 | omega), by (first | exact nq319 b1 | omega)⟩
theorem negIf0 {U : Nat} {one s : Int} (h : decide (s < 0) = decide (one < 0)) : D.tup [.bool false, N (lim U s.natAbs)] = Z U (if one < 0 then -s else s) := by
  have h := decide_eq_decide.mp h
  exact Z_of (by split <;> (first | (with_reducible first | exact nq47 | exact nq161) | omega)) (by apply Bool.eq_iff_iff.mpr; simp only [decide_eq_true_eq, Bool.false_eq_true, false_iff]; split <;> (first | (with_reducible first | exact nq320 h ‹_› | exact nq321 h ‹_›) | omega))
theorem negIf1 {U : Nat} (hW : 2 ≤ U) {one s : Int} (h : decide (s < 0) ≠ decide (one < 0)) : D.tup [.bool (!decide (lim U s.natAbs = [])), N (lim U s.natAbs)] = Z U (if one < 0 then -s else s) := by
  have h : ¬ ((s < 0) ↔ (one < 0)) := fun e => h (decide_eq_decide.mpr e)
  have hq0 : (lim U s.natAbs) = [] ↔ s = 0 := by rw [lim_nil hW]; (first | exact nq23 | omega)
  exact Z_of (by split <;> (first | (with_reducible first | exact nq47 | exact nq161) | omega)) (by apply Bool.eq_iff_iff.mpr; simp only [Bool.not_eq_true', decide_eq_false_iff_not, hq0, decide_eq_true_eq]; split <;> (first | (with_reducible first | exact nq322 h ‹_› | exact nq323 h ‹_›) | omega))
theorem negTup0 {U : Nat} {q : Int} (h : q < 0) : D.tup [.bool false, N (lim U q.natAbs)] = Z U (-q) := Z_of (by (first | exact nq47 | omega)) (by apply Bool.eq_iff_iff.mpr; simp only [decide_eq_true_eq, Bool.false_eq_true, false_iff]; (first | exact nq324 h | omega))
theorem negTup1 {U : Nat} (hW : 2 ≤ U) {q : Int} (h : 0 ≤ q) : D.tup [.bool (!decide (lim U q.natAbs = [])), N (lim U q.natAbs)] = Z U (-q) := by
  have hq0 : (lim U q.natAbs) = [] ↔ q = 0 := by rw [lim_nil hW]; (first | exact nq23 | omega)
  exact Z_of (by (first | exact nq47 | omega)) (by apply Bool.eq_iff_iff.mpr; simp only [Bool.not_eq_true', decide_eq_false_iff_not, hq0, decide_eq_true_eq]; (first | exact nq325 h | omega))

end

section
section
variable {prog : Program} {w : World} {hT : Heap} {os0 : OsState} {fa : Nat → Addr}
theorem joined_tail (P : Facts hT fa) {U wd : Nat} (hU : U = 2 ^ wd) (h1 : 1 ≤ wd) (h2 : wd ≤ 16) (M : Nat → Nat → Int) (b : Nat) (hb1 : 1 ≤ b) (hb : b < 2 ^ 16) (hM : Bd b M) (t o : Nat) (hto : t < o) (ho : o < 3) (A B C E : Int)
    (hA : A.natAbs < 2 ^ b) (hB : B.natAbs < 2 ^ b) (hC : C.natAbs < 2 ^ b) (hE : E.natAbs < 2 ^ b) (k : Nat) {Q : D → Prop} (hQ : Q (mat U (joinM M t o A B C E))) :
    WXs prog w hT os0 (k + 5) (fnScope 49) ((fnBody 49).drop 4) [("a", LV.val (Z U A)), ("b", LV.val (Z U B)), ("c", LV.val (Z U C)), ("d", LV.val (Z U E)), ("rows", LV.val (mat U M)), ("at", LV.val (.int (t : Int))), ("other", LV.val (.int (o : Int))), ("w", LV.val (.int (wd : Int)))]
      (KEnd fun r _ => Q r) := by
  have hW := two_le hU h1
  have lr : ∀ i j, i < 3 → j < 3 → (lim U (M i j).natAbs).length ≤ b := fun i j hi hj => len_bits hW (hM i j hi hj)
  have lA := len_bits hW hA
  have lB := len_bits hW hB
  have lC := len_bits hW hC
  have lE := len_bits hW hE
  show WXs prog w hT os0 (k + 5) (fnScope 49) (_ :: _) _ _
  with_reducible refine' WXs.mid (fun σ => σ = ([("first", LV.own Option.none []), ("second", LV.own Option.none []), ("a", LV.val (Z U A)), ("b", LV.val (Z U B)), ("c", LV.val (Z U C)), ("d", LV.val (Z U E)), ("rows", LV.val (mat U M)), ("at", LV.val (.int (t : Int))), ("other", LV.val (.int (o : Int))), ("w", LV.val (.int (wd : Int)))] : St)) ?_ ?_
  · refine WX.pairF rfl rfl (by intro env he; cases env; dsimp only at he; subst he; rfl) ?_
    walk_at "ws"
    all_goals try (first | exact nq8 | walk_at "nm")
    exact ⟨_, by walk_at "subs", rfl⟩
  rintro σ rfl
  with_reducible refine' WXs.mid (fun σ => σ = ([("first", LV.own Option.none ((List.range 3).map fun j => Z U (A * M t j + B * M o j))), ("second", LV.own Option.none ((List.range 3).map fun j => Z U (C * M t j + E * M o j))), ("rows", LV.val (mat U M)), ("at", LV.val (.int (t : Int))), ("other", LV.val (.int (o : Int)))] : St)) ?_ ?_
  · walk_at "ws"
    all_goals try (first | (with_reducible first | exact nq7 hto ho | exact nq2 | exact nq6 ho) | omega)
    · rw [LR_len, LR_len]
    refine ⟨fun i σ => σ = ([("first", LV.own Option.none ((List.range i).map fun j => Z U (A * M t j + B * M o j))), ("second", LV.own Option.none ((List.range i).map fun j => Z U (C * M t j + E * M o j))), ("a", LV.val (Z U A)), ("b", LV.val (Z U B)), ("c", LV.val (Z U C)), ("d", LV.val (Z U E)), ("rows", LV.val (mat U M)), ("at", LV.val (.int (t : Int))), ("other", LV.val (.int (o : Int))), ("w", LV.val (.int (wd : Int)))] : St), rfl, ?_, ?_⟩
    · rintro i σ hi rfl
      rw [LR_len] at hi
      try dsimp only
      rw [LR_get hi, LR_get hi]
      have l1 := lr t i (by (first | exact nq7 hto ho | omega)) hi
      have l2 := lr o i (by (first | exact nq6 ho | omega)) hi
      have m1 := len_bits hW (mul_bits hA (hM t i (by (first | exact nq7 hto ho | omega)) hi))
      have m2 := len_bits hW (mul_bits hB (hM o i (by (first | exact nq6 ho | omega)) hi))
      have m3 := len_bits hW (mul_bits hC (hM t i (by (first | exact nq7 hto ho | omega)) hi))
      have m4 := len_bits hW (mul_bits hE (hM o i (by (first | exact nq6 ho | omega)) hi))
      walk_at "ws"
      all_goals try first | omega | (rw [LR_len, sizeLine_is]; (first | exact nq121 hi | omega))
      refine OpAt.eq (s_mul_walk P hU h1 h2 _ _ (by (first | exact nq5 hb lA | omega)) (by (first | exact nq5 hb l1 | omega)) 0) (by (first | exact nq43 | omega)) ?_
      walk_at "ws"
      refine OpAt.eq (s_mul_walk P hU h1 h2 _ _ (by (first | exact nq5 hb lB | omega)) (by (first | exact nq5 hb l2 | omega)) 0) (by (first | exact nq43 | omega)) ?_
      walk_at "ws"
      refine OpAt.eq (s_add_walk P hU h1 h2 _ _ (by (first | exact nq95 hb m1 | omega)) (by (first | exact nq95 hb m2 | omega)) 0) (by (first | exact nq43 | omega)) ?_
      walk_at "ws"
      all_goals try first | omega | (rw [LR_len, sizeLine_is]; (first | exact nq121 hi | omega))
      refine OpAt.eq (s_mul_walk P hU h1 h2 _ _ (by (first | exact nq5 hb lC | omega)) (by (first | exact nq5 hb l1 | omega)) 0) (by (first | exact nq43 | omega)) ?_
      walk_at "ws"
      refine OpAt.eq (s_mul_walk P hU h1 h2 _ _ (by (first | exact nq5 hb lE | omega)) (by (first | exact nq5 hb l2 | omega)) 0) (by (first | exact nq43 | omega)) ?_
      walk_at "ws"
      refine OpAt.eq (s_add_walk P hU h1 h2 _ _ (by (first | exact nq95 hb m3 | omega)) (by (first | exact nq95 hb m4 | omega)) 0) (by (first | exact nq43 | omega)) ?_
      walk_at "ws"
      refine TurnF.next _ ?_ rfl
      rw [← LR_snoc i, ← LR_snoc i]
      walk_at "subs"
    · rintro σ rfl
      rw [LR_len]
      exact ⟨rfl, _, by walk_at "subs", rfl⟩
  rintro σ rfl
  refine W.freeze "first" (xs := (List.range 3).map fun j => Z U (A * M t j + B * M o j)) rfl (W.freeze "second" (xs := (List.range 3).map fun j => Z U (C * M t j + E * M o j)) rfl ?_)
  refine W.sub [("first", LV.val (zrow U fun j => A * M t j + B * M o j)), ("second", LV.val (zrow U fun j => C * M t j + E * M o j)), ("rows", LV.val (mat U M)), ("at", LV.val (.int (t : Int))), ("other", LV.val (.int (o : Int)))] (by walk_at "subs") ?_
  with_reducible refine' WXs.cons (WX.ret ?_)
  refine WE.map ⟨by decide, by decide, by decide, by decide⟩ ?_
  walk_at "wi"
  walk_at "ws"
  simp only [LR_len]
  refine ⟨[("first", LV.val (zrow U fun j => A * M t j + B * M o j)), ("second", LV.val (zrow U fun j => C * M t j + E * M o j)), ("at", LV.val (.int (t : Int))), ("other", LV.val (.int (o : Int)))], fun i => zrow U (joinM M t o A B C E i), by walk_at "subs", by walk_at "caps", by decide, fun i hi => ?_, ?_⟩
  · try dsimp only
    rw [LR_get hi]
    walk_at "ws"
    all_goals try walk_at "subs"
    · rename_i hc
      have hc : i = t := by omega
      exact zrow_congr fun j => by unfold joinM; rw [if_pos hc]
    · rename_i hc hc2
      have hc : ¬ i = t := by omega
      have hc2 : i = o := by omega
      exact zrow_congr fun j => by unfold joinM; rw [if_neg hc, if_pos hc2]
    · rename_i hc hc2
      have hc : ¬ i = t := by omega
      have hc2 : ¬ i = o := by omega
      exact zrow_congr fun j => by unfold joinM; rw [if_neg hc, if_neg hc2]
  · exact KRet.use (KEnd.ret hQ)
end

end

section
section
variable {prog : Program} {w : World} {hT : Heap} {os0 : OsState} {fa : Nat → Addr}
theorem joined_walk (P : Facts hT fa) {U wd : Nat} (hU : U = 2 ^ wd) (h1 : 1 ≤ wd) (h2 : wd ≤ 16) (M : Nat → Nat → Int) (b : Nat) (hb1 : 1 ≤ b) (hb : b < 2 ^ 16) (hM : Bd b M) (t o : Nat) (hto : t < o) (ho : o < 3) (hnz : M o t ≠ 0) (k : Nat) :
    Op prog w hT os0 (k + 6) [mat U M, .int (t : Int), .int (o : Int), .int (wd : Int)] (callT (.ref (fa 49))) fun r => ∃ a b c d : Int, r = mat U (joinM M t o a b c d) ∧ JF (M t t) (M o t) a b c d := by
  have hW := two_le hU h1
  have lr : ∀ i j, i < 3 → j < 3 → (lim U (M i j).natAbs).length ≤ b := fun i j hi hj => len_bits hW (hM i j hi hj)
  have l1 := lr t t (by (first | exact nq7 hto ho | omega)) (by (first | exact nq7 hto ho | omega))
  have l2 := lr o t (by (first | exact nq6 ho | omega)) (by (first | exact nq7 hto ho | omega))
  have z1 : D.tup [.bool false, .lst [.int 1]] = Z U 1 := by unfold Z; rw [show (1 : Int).natAbs = 1 from rfl, lim_small hW (by (first | exact nq48 | omega)) (by (first | exact nq24 hW | omega))]; rfl
  have z0 : D.tup [.bool false, .lst []] = Z U 0 := by unfold Z; rw [show (0 : Int).natAbs = 0 from rfl, lim_zero]; rfl
  refine fn_opF (P.fn 49 (by decide)).1 P.nolimit (xs := ["rows", "at", "other", "w"]) (fun pm cd doc vs h => len4 (vs := vs) h fun _ _ _ _ => rfl) fun Q hQ => ?_
  refine W.sub [("rows", LV.val (mat U M)), ("at", LV.val (.int (t : Int))), ("other", LV.val (.int (o : Int))), ("w", LV.val (.int (wd : Int)))] (by walk_at "subs") (WXs.mid (fun σ => σ = ([("one", LV.val (Z U (M t t))), ("two", LV.val (Z U (M o t))), ("rows", LV.val (mat U M)), ("at", LV.val (.int (t : Int))), ("other", LV.val (.int (o : Int))), ("w", LV.val (.int (wd : Int)))] : St)) ?_ ?_)
  · walk_at "ws"
    all_goals try (first | (with_reducible first | exact nq7 hto ho | exact nq2 | exact nq6 ho) | omega)
    exact ⟨_, by walk_at "subs", rfl⟩
  rintro σ rfl
  with_reducible refine' WXs.mid (fun σ => ∃ q r : Int, σ = ([("quotient", LV.val (Z U q)), ("rest", LV.val (Z U r)), ("one", LV.val (Z U (M t t))), ("two", LV.val (Z U (M o t))), ("rows", LV.val (mat U M)), ("at", LV.val (.int (t : Int))), ("other", LV.val (.int (o : Int))), ("w", LV.val (.int (wd : Int)))] : St) ∧
    ((M t t = 0 ∧ q = 0 ∧ r = 1) ∨ (M t t ≠ 0 ∧ q = (M o t).tdiv (M t t) ∧ r = (M o t).tmod (M t t)))) ?_ ?_
  · walk_at "ws"
    refine OpAt.eq (s_sign_walk P hW _ (by (first | exact nq236 hb l1 | omega)) 0) (by (first | exact nq237 | omega)) ?_
    walk_at "ws"
    all_goals try (first | (with_reducible first | exact nq8 | exact nq4 | exact nq93) | walk_at "nm")
    · rename_i hc
      rw [z0, z1]
      refine ⟨_, ?_, 0, 1, rfl, .inl ⟨?_, rfl, rfl⟩⟩
      · walk_at "subs"
      · by_cases h : M t t = 0
        · exact h
        · rw [if_neg h] at hc; split at hc <;> (first | (with_reducible first | exact nq75 hc | exact nq76 hc) | omega)
    · rename_i hc
      have h0 : M t t ≠ 0 := fun h => hc (if_pos h)
      refine OpAt.eq (tdiv_walk P hU h1 h2 _ _ (by (first | exact nq5 hb l2 | omega)) (by (first | exact nq5 hb l1 | omega)) h0 0) (by (first | exact nq54 | omega)) ?_
      walk_at "ws"
      exact ⟨_, by walk_at "subs", _, _, rfl, .inr ⟨h0, rfl, rfl⟩⟩
  rintro σ ⟨q, r, rfl, hqr⟩
  have hq0 : (lim U q.natAbs) = [] ↔ q = 0 := by rw [lim_nil hW]; (first | exact nq23 | omega)
  have hr0 : (lim U r.natAbs).length = 0 ↔ r = 0 := by rw [List.length_eq_zero_iff, lim_nil hW]; (first | exact nq23 | omega)
  have lq : (lim U r.natAbs).length ≤ b := by
    rcases hqr with ⟨_, _, e⟩ | ⟨_, _, e⟩
    · rw [e]; exact len_bits hW (Nat.one_lt_two_pow (by (first | exact nq51 hb1 | omega)))
    · rw [e, Int.natAbs_tmod]; exact Nat.le_trans (len_mono hW (Nat.mod_le _ _)) l2
  have negZ : ∀ z : Int, lim U z.natAbs ≠ [] → D.tup [.bool (!decide (z < 0)), N (lim U z.natAbs)] = Z U (-z) := fun z hz => by
    have : z ≠ 0 := fun e => hz (by rw [e]; exact (lim_nil hW).mpr rfl)
    exact Z_of (by (first | exact nq47 | omega)) (by apply Bool.eq_iff_iff.mpr; simp; (first | exact nq675 this | omega))
  have sumZ : ∀ (x : Bool) (z : Int), (x = decide (z < 0)) → D.tup [.bool x, N (lim U z.natAbs)] = Z U z := fun x z h => Z_of rfl h
  with_reducible refine' WXs.mid (fun σ => σ = ([("a", LV.val (Z U 1)), ("b", LV.val (Z U 0)), ("c", LV.val (Z U (-q))), ("d", LV.val (Z U 1)), ("rest", LV.val (Z U r)), ("one", LV.val (Z U (M t t))), ("two", LV.val (Z U (M o t))), ("rows", LV.val (mat U M)), ("at", LV.val (.int (t : Int))), ("other", LV.val (.int (o : Int))), ("w", LV.val (.int (wd : Int)))] : St)) ?_ ?_
  · refine WX.quad rfl rfl rfl rfl (by intro env he; cases env; dsimp only at he; subst he; rfl) ?_
    walk_at "ws"
    all_goals try (first | (with_reducible first | exact nq93 | exact nq4 | exact nq8) | walk_at "nm")
    · rename_i hq
      refine ⟨_, ?_, rfl⟩
      rw [z1, z0, negTup0 hq]
      walk_at "subs"
    · rename_i hq
      refine ⟨_, ?_, rfl⟩
      rw [z1, z0, negTup1 hW hq]
      walk_at "subs"
  rintro σ rfl
  with_reducible refine' WXs.mid (fun σ => ∃ a b c d : Int, JF (M t t) (M o t) a b c d ∧ σ = ([("a", LV.val (Z U a)), ("b", LV.val (Z U b)), ("c", LV.val (Z U c)), ("d", LV.val (Z U d)), ("rows", LV.val (mat U M)), ("at", LV.val (.int (t : Int))), ("other", LV.val (.int (o : Int))), ("w", LV.val (.int (wd : Int)))] : St)) ?_ ?_
  · with_reducible refine' WX.ifs (WB.cmp ?sa ?_)
    case sa => with_unfolding_all rfl
    iterate 7 walk_at "s"
    refine op_lenN (by (first | exact nq94 hb lq | omega)) ?_
    iterate 4 walk_at "s"
    · rename_i hc
      have hn : ¬ (M t t ≠ 0 ∧ M t t ∣ M o t) := by
        rintro ⟨n1, n2⟩
        rcases hqr with ⟨e, _⟩ | ⟨_, _, e⟩
        · exact n1 e
        · rw [Int.tmod_eq_zero_of_dvd n2] at e; (first | exact nq676 hr0 hc e | omega)
      with_reducible refine' WXs.mid (fun σ => ∃ (s u : Int) (g : Nat), g = Nat.gcd (M t t).natAbs (M o t).natAbs ∧ s * (M t t).natAbs + u * (M o t).natAbs = g ∧ s.natAbs ≤ max 1 (M o t).natAbs ∧ u.natAbs ≤ max 1 (M t t).natAbs ∧ σ = ([("both", LV.val (N (lim U g))), ("s", LV.val (Z U s)), ("t", LV.val (Z U u)), ("one", LV.val (Z U (M t t))), ("two", LV.val (Z U (M o t))), ("rows", LV.val (mat U M)), ("at", LV.val (.int (t : Int))), ("other", LV.val (.int (o : Int))), ("w", LV.val (.int (wd : Int)))] : St)) ?_ ?_
      · walk_at "ws"
        refine ⟨5, by (first | exact nq677 | omega), (gcd_ext_walk P hU h1 h2 _ _ (by (first | exact nq238 hb l1 | omega)) (by (first | exact nq238 hb l2 | omega)) 0).mono ?_⟩
        rintro d ⟨s, u, rfl, e1, e2, e3⟩
        walk_at "ws"
        exact ⟨_, by walk_at "subs", s, u, _, rfl, e1, e2, e3, rfl⟩
      rintro σ ⟨s, u, g, hgg, e1, e2, e3, rfl⟩
      with_reducible refine' WXs.mid (fun σ => σ = ([("a", LV.val (Z U (if M t t < 0 then -s else s))), ("b", LV.val (Z U (if M o t < 0 then -u else u))), ("both", LV.val (N (lim U g))), ("one", LV.val (Z U (M t t))), ("two", LV.val (Z U (M o t))), ("rows", LV.val (mat U M)), ("at", LV.val (.int (t : Int))), ("other", LV.val (.int (o : Int))), ("w", LV.val (.int (wd : Int)))] : St)) ?_ ?_
      · walk_at "ws"
        all_goals try (first | (with_reducible first | exact nq4 | exact nq8) | walk_at "nm")
        all_goals rename_i ha hb
        all_goals refine ⟨_, ?_, rfl⟩
        · rw [negIf0 ha, negIf0 hb]
          walk_at "subs"
        · rw [negIf0 ha, negIf1 hW hb]
          walk_at "subs"
        · rw [negIf1 hW ha, negIf0 hb]
          walk_at "subs"
        · rw [negIf1 hW ha, negIf1 hW hb]
          walk_at "subs"
      rintro σ rfl
      have hgp : 0 < g := hgg ▸ Nat.gcd_pos_of_pos_right _ (by (first | exact nq46 hnz | omega))
      have zg : D.tup [.bool false, N (lim U g)] = Z U (g : Int) := Z_of (by simp) (by simp)
      have lg : (lim U (g : Int).natAbs).length ≤ b := Nat.le_trans (len_mono hW (by rw [Int.natAbs_natCast, hgg]; exact Nat.gcd_le_right _ (by (first | exact nq46 hnz | omega)))) l2
      with_reducible refine' WXs.mid (fun σ => σ = ([("c", LV.val (Z U ((M o t).tdiv g))), ("d", LV.val (Z U ((M t t).tdiv g))), ("a", LV.val (Z U (if M t t < 0 then -s else s))), ("b", LV.val (Z U (if M o t < 0 then -u else u))), ("rows", LV.val (mat U M)), ("at", LV.val (.int (t : Int))), ("other", LV.val (.int (o : Int))), ("w", LV.val (.int (wd : Int)))] : St)) ?_ ?_
      · walk_at "ws"
        all_goals try (first | exact nq4 | walk_at "nm")
        rw [zg]
        refine OpAt.eq (tdiv_walk P hU h1 h2 _ _ (by (first | exact nq5 hb l2 | omega)) (by (first | exact nq5 hb lg | omega)) (by (first | exact nq20 hgp | omega)) 0) (by (first | exact nq54 | omega)) ?_
        walk_at "ws"
        all_goals try (first | exact nq4 | walk_at "nm")
        rw [zg]
        refine OpAt.eq (tdiv_walk P hU h1 h2 _ _ (by (first | exact nq5 hb l1 | omega)) (by (first | exact nq5 hb lg | omega)) (by (first | exact nq20 hgp | omega)) 0) (by (first | exact nq54 | omega)) ?_
        walk_at "ws"
        exact ⟨_, by walk_at "subs", rfl⟩
      rintro σ rfl
      walk_at "ws"
      all_goals try (first | (with_reducible first | exact nq4 | exact nq8) | walk_at "nm")
      all_goals rename_i hq
      all_goals refine ⟨_, ?_, _, _, _, _, JF.gcd hgg hn hnz e1 e2 e3, rfl⟩
      · rw [negTup0 hq]
        walk_at "subs"
      · rw [negTup1 hW hq]
        walk_at "subs"
    · rename_i hc
      have hr : r = 0 := by (first | exact nq678 hr0 hc | omega)
      walk_at "ws"
      have h3 : M t t ≠ 0 ∧ q = (M o t).tdiv (M t t) ∧ (M o t).tmod (M t t) = 0 := by
        rcases hqr with ⟨_, _, e⟩ | ⟨e1, e2, e⟩
        · (first | exact nq679 hr0 hc e | omega)
        · exact ⟨e1, e2, by (first | exact nq680 hr0 hc e | omega)⟩
      refine ⟨_, ?_, _, _, _, _, JF.div h3.1 h3.2.2, rfl⟩
      rw [← h3.2.1]
      walk_at "subs"
  rintro σ ⟨a, b', c, d, hJ, rfl⟩
  have p1 : 1 < 2 ^ b := Nat.one_lt_two_pow (by (first | exact nq51 hb1 | omega))
  have p2 := hM t t (by (first | exact nq7 hto ho | omega)) (by (first | exact nq7 hto ho | omega))
  have p3 := hM o t (by (first | exact nq6 ho | omega)) (by (first | exact nq7 hto ho | omega))
  exact W.mono (joined_tail (Q := fun r => ∃ a b c d : Int, r = mat U (joinM M t o a b c d) ∧ JF (M t t) (M o t) a b c d) P hU h1 h2 M b hb1 hb hM t o hto ho a b' c d (by have := hJ.ba; (first | exact nq239 hnz p3 this | omega)) (by have := hJ.bb; (first | exact nq240 p1 p2 this | omega)) (by have := hJ.bc; (first | exact nq239 hnz p3 this | omega)) (by have := hJ.bd; (first | exact nq240 p1 p2 this | omega)) k ⟨a, b', c, d, rfl, hJ⟩) hQ
end

end

section
noncomputable abbrev tr (M : Nat → Nat → Int) : Nat → Nat → Int := fun i j => M j i
noncomputable def putM (M : Nat → Nat → Int) (t o : Nat) : Nat → Nat → Int := fun i j => if i = t then M t j + M o j else M i j
/-- the column below the corner t is clear up to o -/
def ClrTo (M : Nat → Nat → Int) (t o : Nat) : Prop := ∀ p, t < p → p < o → M p t = 0
/-- the corner t is done -/
def Done (M : Nat → Nat → Int) (t : Nat) : Prop := ClrTo M t 3 ∧ ClrTo (tr M) t 3 ∧ ∀ o c, t < o → o < 3 → t < c → c < 3 → M t t ∣ M o c
/-- a turn -/
inductive Nx (M : Nat → Nat → Int) : (Nat → Nat → Int) → Prop where
  | row (t o : Nat) (a b c d : Int) : t < 2 → (∀ s, s < t → Done M s) → t < o → o < 3 → ClrTo M t o → M o t ≠ 0 → JF (M t t) (M o t) a b c d → Nx M (joinM M t o a b c d)
  | col (t o : Nat) (a b c d : Int) : t < 2 → (∀ s, s < t → Done M s) → t < o → o < 3 → ClrTo M t 3 → ClrTo (tr M) t o → M t o ≠ 0 → JF (M t t) (M t o) a b c d → Nx M (tr (joinM (tr M) t o a b c d))
  | put (t o c : Nat) : t < 2 → (∀ s, s < t → Done M s) → t < o → o < 3 → t < c → c < 3 → ClrTo M t 3 → ClrTo (tr M) t 3 → ¬ (M t t ∣ M o c) → Nx M (putM M t o)
theorem slice_LR {t : Nat} (ht : t < 2) (f : Nat → D) : pySlice ((List.range 3).map f) (some ((t : Int) + 1)) none = (List.range (2 - t)).map fun i => f (t + 1 + i) := by
  match t, ht with
  | 0, _ => rfl
  | 1, _ => rfl
section
variable {prog : Program} {w : World} {hT : Heap} {os0 : OsState} {fa : Nat → Addr}
theorem next_walk (P : Facts hT fa) {U wd : Nat} (hU : U = 2 ^ wd) (h1 : 1 ≤ wd) (h2 : wd ≤ 16) (M : Nat → Nat → Int) (b : Nat) (hb1 : 1 ≤ b) (hb : b < 2 ^ 16) (hM : Bd b M) (k : Nat) :
    Op prog w hT os0 (k + 7) [mat U M, .int (wd : Int)] (callT (.ref (fa 51))) fun r => (r = .none ∧ Done M 0 ∧ Done M 1) ∨ ∃ M', r = mat U M' ∧ Nx M M' := by
  have hW := two_le hU h1
  have lr : ∀ i j, i < 3 → j < 3 → (lim U (M i j).natAbs).length ≤ b := fun i j hi hj => len_bits hW (hM i j hi hj)
  refine fn_opF (P.fn 51 (by decide)).1 P.nolimit (xs := ["rows", "w"]) (fun pm cd doc vs h => len2 (vs := vs) h fun _ _ => rfl) fun Q hQ => ?_
  refine W.sub [("rows", LV.val (mat U M)), ("w", LV.val (.int (wd : Int)))] (by walk_at "subs") (WXs.cons ?_)
  walk_at "ws"
  all_goals try (first | (with_reducible first | exact nq72 | exact nq246) | omega)
  refine ⟨fun t σ => σ = ([("rows", LV.val (mat U M)), ("w", LV.val (.int (wd : Int)))] : St) ∧ ∀ s, s < t → Done M s, ⟨rfl, fun s h => by (first | exact (nq703 h).elim | omega)⟩, ?_, ?_⟩
  · rintro t σ ht ⟨rfl, hd⟩
    have ht : t < 2 := ht
    intro T iT
    try dsimp only
    with_reducible refine' WXs.cons ?_
    walk_at "ws"
    all_goals try (first | (with_reducible first | exact nq72 | exact nq246) | omega)
    refine ⟨fun v σ => σ = ([("at", LV.val (.int (t : Int))), ("rows", LV.val (mat U M)), ("w", LV.val (.int (wd : Int)))] : St) ∧ (1 ≤ v → ClrTo M t 3) ∧ (2 ≤ v → ClrTo (tr M) t 3), ⟨rfl, fun h => by (first | exact (nq704 h).elim | omega), fun h => by (first | exact (nq705 h).elim | omega)⟩, ?_, ?_⟩
    · rintro v σ hv ⟨rfl, hc1, hc2⟩
      have hv : v < 2 := hv
      intro T iT
      try dsimp only
      with_reducible refine' WXs.mid (fun σ => σ = ([("told", LV.val (mat U (if v = 1 then tr M else M))), ("turned", LV.val (.int (v : Int))), ("at", LV.val (.int (t : Int))), ("rows", LV.val (mat U M)), ("w", LV.val (.int (wd : Int)))] : St)) ?_ ?_
      · walk_at "ws"
        · rename_i hv1
          have hv1 : v = 1 := by (first | exact nq88 hv1 | omega)
          refine OpAt.eq (turned_walk P M 0) (by (first | exact nq136 | omega)) ?_
          walk_at "ws"
          refine ⟨_, ?_, rfl⟩
          rw [if_pos hv1]
          walk_at "subs"
        · rename_i hv1
          have hv1 : ¬ v = 1 := by (first | exact nq247 hv1 | omega)
          refine ⟨_, ?_, rfl⟩
          rw [if_neg hv1]
          walk_at "subs"
      rintro σ rfl
      obtain ⟨X, hX⟩ : ∃ X, X = if v = 1 then tr M else M := ⟨_, rfl⟩
      rw [← hX]
      have hXb : Bd b X := by
        rw [hX]; split
        · exact fun i j hi hj => hM j i hj hi
        · exact hM
      have lX : ∀ i j, i < 3 → j < 3 → (lim U (X i j).natAbs).length ≤ b := fun i j hi hj => len_bits hW (hXb i j hi hj)
      with_reducible refine' WXs.cons ?_
      walk_at "ws"
      all_goals try (first | (with_reducible first | exact nq83 | exact nq248 ‹_› | exact nq25 | exact nq26) | omega)
      refine ⟨fun i σ => σ = ([("told", LV.val (mat U X)), ("turned", LV.val (.int (v : Int))), ("at", LV.val (.int (t : Int))), ("rows", LV.val (mat U M)), ("w", LV.val (.int (wd : Int)))] : St) ∧ ClrTo X t (t + 1 + i), ⟨rfl, fun p h1 h2 => by (first | exact nq706 h1 h2 | omega)⟩, ?_, ?_⟩
      · rintro i σ hi ⟨rfl, hcl⟩
        have ho : t + 1 + i < 3 := by (first | exact nq64 hi | omega)
        have lx := lX (t + 1 + i) t ho (by (first | exact nq30 ‹_› | omega))
        have lx0 : (lim U (X (t + 1 + i) t).natAbs).length = 0 ↔ X (t + 1 + i) t = 0 := by rw [List.length_eq_zero_iff, lim_nil hW]; (first | exact nq23 | omega)
        try dsimp only
        rw [show ((t : Int) + 1 + (i : Int)) = ((t + 1 + i : Nat) : Int) by push_cast; rfl]
        walk_at "ws"
        all_goals try (first | (with_reducible first | exact nq64 hi | exact nq2 | exact nq30 ‹_› | exact nq94 hb lx) | omega)
        · rename_i hne
          refine ⟨6, by (first | exact nq707 | omega), (joined_walk P hU h1 h2 X b hb1 hb hXb t (t + 1 + i) (by (first | exact nq65 | omega)) ho (by (first | exact nq249 lx0 hne | omega)) 0).mono ?_⟩
          rintro r ⟨a, b', c, d, rfl, hJ⟩
          walk_at "ws"
          · rename_i hv1
            have hv1 : v = 1 := by (first | exact nq88 hv1 | omega)
            rw [if_pos hv1] at hX
            subst hX
            refine OpAt.eq (turned_walk P _ 0) (by (first | exact nq136 | omega)) ?_
            walk_at "ws"
            exact .inr ⟨_, rfl, .col t (t + 1 + i) a b' c d ht hd (by (first | exact nq65 | omega)) ho (hc1 (by (first | exact nq708 ‹_› | omega))) hcl (fun e => absurd (lx0.mpr e) (by (first | exact nq137 hne | omega))) hJ⟩
          · rename_i hv1
            have hv1 : ¬ v = 1 := by (first | exact nq247 hv1 | omega)
            rw [if_neg hv1] at hX
            subst hX
            exact .inr ⟨_, rfl, .row t (t + 1 + i) a b' c d ht hd (by (first | exact nq65 | omega)) ho hcl (by (first | exact nq249 lx0 hne | omega)) hJ⟩
        · rename_i he
          refine TurnF.next _ (by walk_at "subs") ⟨rfl, fun p p1 p2 => ?_⟩
          rcases Nat.lt_or_ge p (t + 1 + i) with h | h
          · exact hcl p p1 h
          · rw [show p = t + 1 + i by (first | exact nq138 p2 h | omega)]; exact lx0.mp (by (first | exact nq28 he | omega))
      · rintro σ ⟨rfl, hcl⟩
        try dsimp only
        rw [show t + 1 + (3 - ((t : Int) + 1)).toNat = 3 by (first | exact nq709 ‹_› | omega)] at hcl
        walk_at "ws"
        refine TurnF.next _ (by walk_at "subs") ⟨rfl, fun hv1 => ?_, fun hv1 => ?_⟩
        · by_cases h0 : v = 0
          · rw [hX, if_neg (by (first | exact nq710 h0 | omega))] at hcl; exact hcl
          · exact hc1 (by (first | exact nq711 h0 | omega))
        · rw [hX, if_pos (by (first | exact nq712 ‹_› hv1 | omega))] at hcl; exact hcl
    · rintro σ ⟨rfl, hc1, hc2⟩
      replace hc1 := hc1 (by decide)
      replace hc2 := hc2 (by decide)
      try dsimp only
      with_reducible refine' KThen.next (WXs.cons ?_)
      walk_at "ws"
      all_goals try (first | (with_reducible first | exact nq83 | exact nq248 ‹_› | exact nq25 | exact nq26) | omega)
      refine ⟨fun i σ => σ = ([("at", LV.val (.int (t : Int))), ("rows", LV.val (mat U M)), ("w", LV.val (.int (wd : Int)))] : St) ∧ ∀ o c, t < o → o < t + 1 + i → t < c → c < 3 → M t t ∣ M o c, ⟨rfl, fun o c h1 h2 => by (first | exact nq713 h1 h2 | omega)⟩, ?_, ?_⟩
      · rintro i σ hi ⟨rfl, hdv⟩
        have ho : t + 1 + i < 3 := by (first | exact nq64 hi | omega)
        have ltt := lr t t (by (first | exact nq30 ‹_› | omega)) (by (first | exact nq30 ‹_› | omega))
        try dsimp only
        intro T2 iT2
        rw [show ((t : Int) + 1 + (i : Int)) = ((t + 1 + i : Nat) : Int) by push_cast; rfl]
        with_reducible refine' WXs.mid (fun σ => σ = ([("corner", LV.val (Z U (M t t))), ("other", LV.val (.int ((t + 1 + i : Nat) : Int))), ("at", LV.val (.int (t : Int))), ("rows", LV.val (mat U M)), ("w", LV.val (.int (wd : Int)))] : St)) ?_ ?_
        · walk_at "ws"
          all_goals try (first | (with_reducible first | exact nq30 ‹_› | exact nq2) | omega)
          exact ⟨_, by walk_at "subs", rfl⟩
        rintro σ rfl
        with_reducible refine' WXs.cons (WX.forD ?sf (WI.list ?sa (WE.slice ?_)))
        case sa => rfl
        case sf => rfl
        walk_at "ws"
        all_goals try (first | (with_reducible first | exact nq64 hi | exact nq2) | omega)
        · rw [LR_len, sizeLine_is]; (first | exact nq714 | omega)
        rw [slice_LR ht]
        refine ⟨fun e σ => σ = ([("corner", LV.val (Z U (M t t))), ("other", LV.val (.int ((t + 1 + i : Nat) : Int))), ("at", LV.val (.int (t : Int))), ("rows", LV.val (mat U M)), ("w", LV.val (.int (wd : Int)))] : St) ∧ ∀ c, t < c → c < t + 1 + e → M t t ∣ M (t + 1 + i) c, ⟨rfl, fun c h1 h2 => by (first | exact nq715 h1 h2 | omega)⟩, ?_, ?_⟩
        · rintro e σ he ⟨rfl, hdc⟩
          rw [LR_len] at he
          try dsimp only
          rw [LR_get he]
          have hc : t + 1 + e < 3 := by (first | exact nq716 he | omega)
          have loc := lr (t + 1 + i) (t + 1 + e) ho hc
          have lt' : (lim U ((M (t + 1 + i) (t + 1 + e)).tmod (M t t)).natAbs).length ≤ b := by rw [Int.natAbs_tmod]; exact Nat.le_trans (len_mono hW (Nat.mod_le _ _)) loc
          intro T3 iT3
          with_reducible refine' WXs.mid (fun σ => ∃ z : Int, (lim U z.natAbs).length ≤ b ∧ (z = 0 ↔ M t t ∣ M (t + 1 + i) (t + 1 + e)) ∧ σ = ([("left", LV.val (N (lim U z.natAbs))), ("corner", LV.val (Z U (M t t))), ("other", LV.val (.int ((t + 1 + i : Nat) : Int))), ("at", LV.val (.int (t : Int))), ("rows", LV.val (mat U M)), ("w", LV.val (.int (wd : Int)))] : St)) ?_ ?_
          · walk_at "ws"
            refine OpAt.eq (s_sign_walk P hW _ (by (first | exact nq236 hb ltt | omega)) 0) (by (first | exact nq136 | omega)) ?_
            walk_at "ws"
            · rename_i h0
              have h0 : M t t = 0 := by
                by_cases h : M t t = 0
                · exact h
                · rw [if_neg h] at h0; split at h0 <;> (first | (with_reducible first | exact nq75 h0 | exact nq76 h0) | omega)
              exact ⟨_, by walk_at "subs", M (t + 1 + i) (t + 1 + e), loc, by rw [h0, Int.zero_dvd], rfl⟩
            · rename_i h0
              have h0 : M t t ≠ 0 := fun h => h0 (if_pos h)
              refine OpAt.eq (tdiv_walk P hU h1 h2 _ _ (by (first | exact nq5 hb loc | omega)) (by (first | exact nq5 hb ltt | omega)) h0 0) (by (first | exact nq717 | omega)) ?_
              walk_at "ws"
              exact ⟨_, by walk_at "subs", _, lt', Int.dvd_iff_tmod_eq_zero.symm, rfl⟩
          rintro σ ⟨z, lz, hz, rfl⟩
          have hz0 : (lim U z.natAbs).length = 0 ↔ z = 0 := by rw [List.length_eq_zero_iff, lim_nil hW]; (first | exact nq23 | omega)
          walk_at "ws"
          all_goals try (first | exact nq94 hb lz | omega)
          · rename_i hz1
            have hnd : ¬ (M t t ∣ M (t + 1 + i) (t + 1 + e)) := fun q => absurd (hz0.mpr (hz.mpr q)) (by (first | exact nq137 hz1 | omega))
            refine WE.map ⟨by decide, by decide, by decide, by decide⟩ ?_
            walk_at "wi"
            walk_at "ws"
            all_goals try (first | (with_reducible first | exact nq30 ‹_› | exact nq2 | exact nq64 hi) | omega)
            · rw [LR_len, LR_len]
            simp only [LR_len]
            refine ⟨[("w", LV.val (.int (wd : Int)))], fun j => Z U (M t j + M (t + 1 + i) j), by walk_at "subs", by walk_at "caps", by decide, fun j hj => ?_, ?_⟩
            · try dsimp only
              rw [LR_get hj, LR_get hj]
              have q1 := lr t j (by (first | exact nq30 ‹_› | omega)) hj
              have q2 := lr (t + 1 + i) j ho hj
              walk_at "ws"
              refine OpAt.eq (s_add_walk P hU h1 h2 _ _ (by (first | exact nq5 hb q1 | omega)) (by (first | exact nq5 hb q2 | omega)) 0) (by (first | exact nq120 | omega)) ?_
              walk_at "ws"
              walk_at "subs"
            refine W.sub [("put", LV.val (zrow U fun j => M t j + M (t + 1 + i) j)), ("at", LV.val (.int (t : Int))), ("rows", LV.val (mat U M))] (by walk_at "subs") ?_
            with_reducible refine' WXs.cons (WX.ret ?_)
            refine WE.map ⟨by decide, by decide, by decide, by decide⟩ ?_
            walk_at "wi"
            walk_at "ws"
            simp only [LR_len]
            refine ⟨[("put", LV.val (zrow U fun j => M t j + M (t + 1 + i) j)), ("at", LV.val (.int (t : Int)))], fun r => zrow U (putM M t (t + 1 + i) r), by walk_at "subs", by walk_at "caps", by decide, fun r hr => ?_, ?_⟩
            · try dsimp only
              rw [LR_get hr]
              walk_at "ws"
              all_goals try walk_at "subs"
              · rename_i hrt
                have hrt : r = t := by omega
                exact zrow_congr fun j => by unfold putM; rw [if_pos hrt]
              · rename_i hrt
                have hrt : ¬ r = t := by omega
                exact zrow_congr fun j => by unfold putM; rw [if_neg hrt]
            · walk_at "ws"
              exact .inr ⟨_, rfl, .put t (t + 1 + i) (t + 1 + e) ht hd (by (first | exact nq65 | omega)) ho (by (first | exact nq65 | omega)) hc hc1 hc2 hnd⟩
          · rename_i hz1
            refine TurnF.next _ (by walk_at "subs") ⟨rfl, fun c c1 c2 => ?_⟩
            rcases Nat.lt_or_ge c (t + 1 + e) with h | h
            · exact hdc c c1 h
            · rw [show c = t + 1 + e by (first | exact nq138 c2 h | omega)]; exact hz.mp (hz0.mp (by (first | exact nq28 hz1 | omega)))
        · rintro σ ⟨rfl, hdc⟩
          rw [LR_len] at hdc
          try dsimp only
          walk_at "ws"
          refine TurnF.next _ (by walk_at "subs") ⟨rfl, fun o c h1 h2 h3 h4 => ?_⟩
          rcases Nat.lt_or_ge o (t + 1 + i) with h | h
          · exact hdv o c h1 h h3 h4
          · rw [show o = t + 1 + i by (first | exact nq138 h2 h | omega)]; exact hdc c h3 (by (first | exact nq718 h4 | omega))
      · rintro σ ⟨rfl, hdv⟩
        try dsimp only
        walk_at "ws"
        refine TurnF.next _ (by walk_at "subs") ⟨rfl, fun s hs => ?_⟩
        rcases Nat.lt_or_ge s t with h | h
        · exact hd s h
        · rw [show s = t by (first | exact nq719 hs h | omega)]
          exact ⟨hc1, hc2, fun o c h1 h2 h3 h4 => hdv o c h1 (by (first | exact nq720 h2 | omega)) h3 h4⟩
  · rintro σ ⟨rfl, hd⟩
    try dsimp only
    walk_at "ws"
    exact .inl ⟨rfl, hd 0 (by decide), hd 1 (by decide)⟩
end

end

section
/-! ## what stays at a turn -/
theorem dvd_foldl (k : Nat) : ∀ (l : List Int) (g : Nat), k ∣ l.foldl (fun g i => Nat.gcd g i.natAbs) g ↔ k ∣ g ∧ ∀ x ∈ l, (k : Int) ∣ x
  | [], g => by simp
  | x :: l, g => by
    rw [List.foldl_cons, dvd_foldl k l, Nat.dvd_gcd_iff]
    constructor
    · rintro ⟨⟨h1, h2⟩, h3⟩
      exact ⟨h1, fun y hy => (List.mem_cons.mp hy).elim (fun e => e ▸ Int.ofNat_dvd_left.mpr h2) (h3 y)⟩
    · rintro ⟨h1, h2⟩
      exact ⟨⟨h1, Int.ofNat_dvd_left.mp (h2 x (.head _))⟩, fun y hy => h2 y (.tail _ hy)⟩
theorem dvd_gcdZ {k : Nat} {l : List Int} : k ∣ gcdZ l ↔ ∀ x ∈ l, (k : Int) ∣ x := by
  unfold gcdZ; rw [dvd_foldl]; simp
theorem gcdZ_eq {l l' : List Int} (h : ∀ k : Nat, (∀ x ∈ l, (k : Int) ∣ x) ↔ ∀ x ∈ l', (k : Int) ∣ x) : gcdZ l = gcdZ l' :=
  Nat.dvd_antisymm (dvd_gcdZ.mpr ((h _).mp (dvd_gcdZ.mp (Nat.dvd_refl _)))) (dvd_gcdZ.mpr ((h _).mpr (dvd_gcdZ.mp (Nat.dvd_refl _))))
def AllE (k : Int) (M : Nat → Nat → Int) : Prop := ∀ i j, i < 3 → j < 3 → k ∣ M i j
noncomputable def mn (M : Nat → Nat → Int) (i i' j j' : Nat) : Int := M i j * M i' j' - M i j' * M i' j
def AllM (k : Int) (M : Nat → Nat → Int) : Prop := ∀ i i' j j', i < 3 → i' < 3 → j < 3 → j' < 3 → k ∣ mn M i i' j j'
theorem ents_iff {k : Int} {M : Nat → Nat → Int} : (∀ x ∈ ents M, k ∣ x) ↔ AllE k M := by
  unfold ents AllE
  constructor
  · intro h i j hi hj
    exact h _ (List.mem_flatMap.mpr ⟨i, List.mem_range.mpr hi, List.mem_map.mpr ⟨j, List.mem_range.mpr hj, rfl⟩⟩)
  · intro h x hx
    obtain ⟨i, hi, hx⟩ := List.mem_flatMap.mp hx
    obtain ⟨j, hj, rfl⟩ := List.mem_map.mp hx
    exact h i j (List.mem_range.mp hi) (List.mem_range.mp hj)
theorem minor_mn (M : Nat → Nat → Int) (r c : Nat) : minor M r c = mn M (pa r) (pb r) (pa c) (pb c) := rfl
theorem mn_swap1 (M : Nat → Nat → Int) (i i' j j' : Nat) : mn M i' i j j' = -mn M i i' j j' := by unfold mn; grind
theorem mn_swap2 (M : Nat → Nat → Int) (i i' j j' : Nat) : mn M i i' j' j = -mn M i i' j j' := by unfold mn; grind
theorem mn_same1 (M : Nat → Nat → Int) (i j j' : Nat) : mn M i i j j' = 0 := by unfold mn; grind
theorem mn_same2 (M : Nat → Nat → Int) (i i' j : Nat) : mn M i i' j j = 0 := by unfold mn; grind
theorem pair_of {i i' : Nat} (h : i < i') (hi : i' < 3) : ∃ r, r < 3 ∧ pa r = i ∧ pb r = i' := by
  rcases (show (i = 0 ∧ i' = 1) ∨ (i = 0 ∧ i' = 2) ∨ (i = 1 ∧ i' = 2) by (first | exact nq165 h hi | omega)) with ⟨rfl, rfl⟩ | ⟨rfl, rfl⟩ | ⟨rfl, rfl⟩
  · exact ⟨0, by decide, rfl, rfl⟩
  · exact ⟨1, by decide, rfl, rfl⟩
  · exact ⟨2, by decide, rfl, rfl⟩
theorem mins_iff {k : Int} {M : Nat → Nat → Int} : (∀ x ∈ mins M 3, k ∣ x) ↔ AllM k M := by
  unfold mins AllM
  constructor
  · intro h
    have h1 : ∀ r c, r < 3 → c < 3 → k ∣ mn M (pa r) (pb r) (pa c) (pb c) := fun r c hr hc => by
      rw [← minor_mn]
      exact h _ (List.mem_flatMap.mpr ⟨r, List.mem_range.mpr hr, List.mem_map.mpr ⟨c, List.mem_range.mpr hc, rfl⟩⟩)
    have h2 : ∀ i i' j j', i < i' → i' < 3 → j < j' → j' < 3 → k ∣ mn M i i' j j' := fun i i' j j' a b c d => by
      obtain ⟨r, hr, rfl, rfl⟩ := pair_of a b
      obtain ⟨q, hq, rfl, rfl⟩ := pair_of c d
      exact h1 r q hr hq
    have h3 : ∀ i i' j j', i < i' → i' < 3 → j < 3 → j' < 3 → k ∣ mn M i i' j j' := fun i i' j j' a b c d => by
      rcases Nat.lt_trichotomy j j' with e | e | e
      · exact h2 _ _ _ _ a b e d
      · rw [e, mn_same2]; exact Int.dvd_zero k
      · rw [mn_swap2]; exact Int.dvd_neg.mpr (h2 _ _ _ _ a b e c)
    intro i i' j j' a b c d
    rcases Nat.lt_trichotomy i i' with e | e | e
    · exact h3 _ _ _ _ e b c d
    · rw [e, mn_same1]; exact Int.dvd_zero k
    · rw [mn_swap1]; exact Int.dvd_neg.mpr (h3 _ _ _ _ e a c d)
  · intro h x hx
    obtain ⟨r, hr, hx⟩ := List.mem_flatMap.mp hx
    obtain ⟨c, hc, rfl⟩ := List.mem_map.mp hx
    exact h _ _ _ _ (pa_lt r) (pb_lt r) (pa_lt c) (pb_lt c)
theorem dvd_lin {k x y : Int} (a b : Int) (h : k ∣ x) (g : k ∣ y) : k ∣ a * x + b * y := Int.dvd_add (Int.dvd_mul_of_dvd_right h) (Int.dvd_mul_of_dvd_right g)
section
variable {M : Nat → Nat → Int} {t o : Nat} {a b c d : Int}
theorem join_at (j : Nat) : joinM M t o a b c d t j = a * M t j + b * M o j := if_pos rfl
theorem join_other (h : t ≠ o) (j : Nat) : joinM M t o a b c d o j = c * M t j + d * M o j := by unfold joinM; rw [if_neg (Ne.symm h), if_pos rfl]
theorem join_rest {i : Nat} (h1 : i ≠ t) (h2 : i ≠ o) (j : Nat) : joinM M t o a b c d i j = M i j := by unfold joinM; rw [if_neg h1, if_neg h2]
theorem AllE.join {k : Int} (h : AllE k M) (ht : t < 3) (ho : o < 3) : AllE k (joinM M t o a b c d) := fun i j hi hj => by
  unfold joinM
  split
  · exact dvd_lin _ _ (h _ _ ht hj) (h _ _ ho hj)
  · split
    · exact dvd_lin _ _ (h _ _ ht hj) (h _ _ ho hj)
    · exact h _ _ hi hj
theorem AllM.join {k : Int} (h : AllM k M) (hne : t ≠ o) (ht : t < 3) (ho : o < 3) : AllM k (joinM M t o a b c d) := by
  have rowC : ∀ i, i < 3 → ∃ x u y v, u < 3 ∧ v < 3 ∧ ∀ j, joinM M t o a b c d i j = x * M u j + y * M v j := fun i hi => by
    by_cases e : i = t
    · subst e; exact ⟨a, i, b, o, ht, ho, fun j => join_at j⟩
    · by_cases e2 : i = o
      · subst e2; exact ⟨c, t, d, i, ht, ho, fun j => join_other hne j⟩
      · exact ⟨1, i, 0, i, hi, hi, fun j => by rw [join_rest e e2]; grind⟩
  intro i i' j j' hi hi' hj hj'
  obtain ⟨x, u, y, v, hu, hv, e⟩ := rowC i hi
  obtain ⟨x', u', y', v', hu', hv', e'⟩ := rowC i' hi'
  have : mn (joinM M t o a b c d) i i' j j' = (x * x') * mn M u u' j j' + (x * y') * mn M u v' j j' + ((y * x') * mn M v u' j j' + (y * y') * mn M v v' j j') := by
    unfold mn; rw [e, e, e', e']; grind
  rw [this]
  exact Int.dvd_add (dvd_lin _ _ (h _ _ _ _ hu hu' hj hj') (h _ _ _ _ hu hv' hj hj')) (dvd_lin _ _ (h _ _ _ _ hv hu' hj hj') (h _ _ _ _ hv hv' hj hj'))
theorem join_back (hne : t ≠ o) (hd : a * d - b * c = 1) : joinM (joinM M t o a b c d) t o d (-b) (-c) a = M := by
  funext i j
  by_cases e : i = t
  · subst e; rw [join_at, join_at, join_other hne]
    have : d * (a * M i j + b * M o j) + -b * (c * M i j + d * M o j) = (a * d - b * c) * M i j := by grind
    rw [this, hd]; grind
  · by_cases e2 : i = o
    · subst e2; rw [join_other hne, join_at, join_other hne]
      have : -c * (a * M t j + b * M i j) + a * (c * M t j + d * M i j) = (a * d - b * c) * M i j := by grind
      rw [this, hd]; grind
    · rw [join_rest e e2, join_rest e e2]
theorem det_join (h : t < o) (ho : o < 3) : det3 (joinM M t o a b c d) = (a * d - b * c) * det3 M := by
  rw [det3_eq, det3_eq]
  rcases (show (t = 0 ∧ o = 1) ∨ (t = 0 ∧ o = 2) ∨ (t = 1 ∧ o = 2) by (first | exact nq165 h ho | omega)) with ⟨rfl, rfl⟩ | ⟨rfl, rfl⟩ | ⟨rfl, rfl⟩
  · show (a * M 0 0 + b * M 1 0) * ((c * M 0 1 + d * M 1 1) * M 2 2 - (c * M 0 2 + d * M 1 2) * M 2 1) - (a * M 0 1 + b * M 1 1) * ((c * M 0 0 + d * M 1 0) * M 2 2 - (c * M 0 2 + d * M 1 2) * M 2 0) + (a * M 0 2 + b * M 1 2) * ((c * M 0 0 + d * M 1 0) * M 2 1 - (c * M 0 1 + d * M 1 1) * M 2 0) = _
    grind
  · show (a * M 0 0 + b * M 2 0) * (M 1 1 * (c * M 0 2 + d * M 2 2) - M 1 2 * (c * M 0 1 + d * M 2 1)) - (a * M 0 1 + b * M 2 1) * (M 1 0 * (c * M 0 2 + d * M 2 2) - M 1 2 * (c * M 0 0 + d * M 2 0)) + (a * M 0 2 + b * M 2 2) * (M 1 0 * (c * M 0 1 + d * M 2 1) - M 1 1 * (c * M 0 0 + d * M 2 0)) = _
    grind
  · show M 0 0 * ((a * M 1 1 + b * M 2 1) * (c * M 1 2 + d * M 2 2) - (a * M 1 2 + b * M 2 2) * (c * M 1 1 + d * M 2 1)) - M 0 1 * ((a * M 1 0 + b * M 2 0) * (c * M 1 2 + d * M 2 2) - (a * M 1 2 + b * M 2 2) * (c * M 1 0 + d * M 2 0)) + M 0 2 * ((a * M 1 0 + b * M 2 0) * (c * M 1 1 + d * M 2 1) - (a * M 1 1 + b * M 2 1) * (c * M 1 0 + d * M 2 0)) = _
    grind
end
theorem det_tr (M : Nat → Nat → Int) : det3 (tr M) = det3 M := by rw [det3_eq, det3_eq]; grind
theorem AllE.tr {k : Int} {M : Nat → Nat → Int} (h : AllE k M) : AllE k (tr M) := fun i j hi hj => h j i hj hi
theorem mn_tr (M : Nat → Nat → Int) (i i' j j' : Nat) : mn (tr M) i i' j j' = mn M j j' i i' := by unfold mn; grind
theorem AllM.tr {k : Int} {M : Nat → Nat → Int} (h : AllM k M) : AllM k (tr M) := fun i i' j j' a b c d => by rw [mn_tr]; exact h _ _ _ _ c d a b
theorem put_join (M : Nat → Nat → Int) {t o : Nat} (h : t ≠ o) : putM M t o = joinM M t o 1 1 0 1 := by
  funext i j
  unfold putM
  by_cases e : i = t
  · subst e; rw [if_pos rfl, join_at]; grind
  · rw [if_neg e]
    by_cases e2 : i = o
    · subst e2; rw [join_other h]; grind
    · rw [join_rest e e2]
/-- two grids with the same divisors -/
structure Alike (M M' : Nat → Nat → Int) : Prop where
  e : ∀ k, AllE k M ↔ AllE k M'
  m : ∀ k, AllM k M ↔ AllM k M'
  d : det3 M' = det3 M
theorem Alike.join {M : Nat → Nat → Int} {t o : Nat} {a b c d : Int} (h : t < o) (ho : o < 3) (hd : a * d - b * c = 1) : Alike M (joinM M t o a b c d) where
  e k := ⟨fun x => x.join (by (first | exact nq7 h ho | omega)) ho, fun x => by
    have := x.join (t := t) (o := o) (a := d) (b := -b) (c := -c) (d := a) (by (first | exact nq7 h ho | omega)) ho
    rwa [join_back (by (first | exact nq49 h | omega)) hd] at this⟩
  m k := ⟨fun x => x.join (by (first | exact nq49 h | omega)) (by (first | exact nq7 h ho | omega)) ho, fun x => by
    have := x.join (t := t) (o := o) (a := d) (b := -b) (c := -c) (d := a) (by (first | exact nq49 h | omega)) (by (first | exact nq7 h ho | omega)) ho
    rwa [join_back (by (first | exact nq49 h | omega)) hd] at this⟩
  d := by rw [det_join h ho, hd]; grind
theorem Alike.tr (M : Nat → Nat → Int) : Alike M (tr M) := ⟨fun k => ⟨fun h => h.tr, fun h => h.tr⟩, fun k => ⟨fun h => h.tr, fun h => h.tr⟩, det_tr M⟩
theorem Alike.trans {A B C : Nat → Nat → Int} (h : Alike A B) (g : Alike B C) : Alike A C := ⟨fun k => (h.e k).trans (g.e k), fun k => (h.m k).trans (g.m k), g.d.trans h.d⟩
theorem Nx.alike {M M' : Nat → Nat → Int} (h : Nx M M') : Alike M M' := by
  cases h with
  | row t o a b c d h1 h2 h3 h4 h5 h6 h7 => exact .join h3 h4 h7.det
  | col t o a b c d h1 h2 h3 h4 h5 h6 h7 h8 => exact ((Alike.tr M).trans (.join h3 h4 h8.det)).trans (.tr _)
  | put t o c h1 h2 h3 h4 h5 h6 h7 h8 h9 => rw [put_join M (by (first | exact nq49 h3 | omega))]; exact .join h3 h4 (by decide)
theorem Alike.told {M M' : Nat → Nat → Int} (h : Alike M M') : toldD M' = toldD M := by
  have e1 : gcdZ (ents M') = gcdZ (ents M) := gcdZ_eq fun k => by rw [ents_iff, ents_iff]; exact (h.e k).symm
  have e2 : gcdZ (mins M' 3) = gcdZ (mins M 3) := gcdZ_eq fun k => by rw [mins_iff, mins_iff]; exact (h.m k).symm
  have e3 : part M' 3 = part M 3 := h.d
  show D.tup _ = D.tup _
  rw [e1, e2, e3]

end

section
section
variable {prog : Program} {w : World} {hT : Heap} {os0 : OsState} {fa : Nat → Addr}
theorem law_tail (P : Facts hT fa) {U wd : Nat} (hU : U = 2 ^ wd) (h1 : 1 ≤ wd) (h2 : wd ≤ 16) (M : Nat → Nat → Int) (b : Nat) (hb1 : 1 ≤ b) (hb : b < 2 ^ 16) (hM : Bd b M) (T : D)
    (hT' : T = .tup [.int ((M 0 0).natAbs : Int), .int ((M 0 0).natAbs * (M 1 1).natAbs : Int), .int ((M 0 0).natAbs * (M 1 1).natAbs * (M 2 2).natAbs : Int)]) (hD : ∀ i j, i < 3 → j < 3 → i ≠ j → M i j = 0) (k : Nat) :
    WXs prog w hT os0 (k + 5) (fnScope 52) ((fnBody 52).drop 7) [("rows", LV.val (mat U M)), ("told", LV.val T), ("w", LV.val (.int (wd : Int)))]
      (KEnd fun r _ => r = .bool true) := by
  have hW := two_le hU h1
  have lr : ∀ i j, i < 3 → j < 3 → (lim U (M i j).natAbs).length ≤ b := fun i j hi hj => len_bits hW (hM i j hi hj)
  show WXs prog w hT os0 (k + 5) (fnScope 52) (_ :: _) _ _
  with_reducible refine' WXs.mid (fun σ => σ = ([("ends", LV.own Option.none ((List.range 3).map fun i => .int ((M i i).natAbs : Int))), ("rows", LV.val (mat U M)), ("told", LV.val T)] : St)) ?_ ?_
  · refine WX.assignComp (by decide) ⟨by decide, by decide, by decide, by decide⟩ ?_ (by intro env he; cases env; dsimp only at he; subst he; rfl)
    walk_at "wi"
    walk_at "ws"
    all_goals try (first | (with_reducible first | exact nq25 | exact nq26) | omega)
    refine ⟨[("rows", LV.val (mat U M)), ("w", LV.val (.int (wd : Int)))], _, by walk_at "subs", by walk_at "caps",
      CLoop.one (fun i σ xs => σ = ([("rows", LV.val (mat U M)), ("w", LV.val (.int (wd : Int)))] : St) ∧ xs = (List.range i).map fun i => .int ((M i i).natAbs : Int)) ⟨rfl, rfl⟩ (fun i σ xs hi ⟨_, e⟩ => by rw [e, LR_len, sizeLine_is]; (first | exact nq139 hi | omega)) ?_, ?_⟩
    · rintro i σ xs hi ⟨rfl, rfl⟩
      have hi : i < 3 := hi
      have := lr i i hi hi
      walk_at "ws"
      all_goals try (first | (with_reducible first | exact nq57 ‹_› | exact nq2) | omega)
      refine OpAt.eq (worth_walk P hU h1 h2 _ (by (first | exact nq5 hb this | omega)) 0) (by (first | exact nq237 | omega)) ?_
      walk_at "ws"
      exact ⟨_, by walk_at "subs", rfl, LR_snoc i _⟩
    · rintro σe xs ⟨rfl, rfl⟩
      exact ⟨[("rows", LV.val (mat U M))], by walk_at "subs", by walk_at "caps", rfl, _, by walk_at "subs", rfl⟩
  rintro σ rfl
  with_reducible refine' WXs.mid (fun σ => σ = ([("ends", LV.own Option.none ((List.range 3).map fun i => .int ((M i i).natAbs : Int))), ("told", LV.val T)] : St)) ?_ ?_
  · with_reducible refine' WX.ifs (WB.cmp ?sa ?_)
    case sa => with_unfolding_all rfl
    refine WE.comp ⟨by decide, by decide, by decide, by decide⟩ ?_
    walk_at "wi"
    walk_at "ws"
    all_goals try (first | (with_reducible first | exact nq25 | exact nq26) | omega)
    refine ⟨[("rows", LV.val (mat U M))], _, by walk_at "subs", by walk_at "caps", CLoop.two (fun i σ xs => σ = ([("rows", LV.val (mat U M))] : St) ∧ xs = []) ⟨rfl, rfl⟩ ?_, ?_⟩
    · rintro i σ xs hi ⟨rfl, rfl⟩
      have hi : i < 3 := hi
      walk_at "wi"
      walk_at "ws"
      all_goals try (first | (with_reducible first | exact nq57 ‹_› | exact nq2) | omega)
      rw [LR_len]
      refine ⟨fun j σ xs => σ = ([("at", LV.val (.int (i : Int))), ("rows", LV.val (mat U M))] : St) ∧ xs = [], ⟨rfl, rfl⟩, ?_, ?_⟩
      · rintro j σ ys hj ⟨rfl, rfl⟩
        try dsimp only
        rw [LR_get hj]
        have := lr i j hi hj
        have hl : (lim U (M i j).natAbs).length = 0 ↔ M i j = 0 := by rw [List.length_eq_zero_iff, lim_nil hW]; (first | exact nq23 | omega)
        refine ⟨by decide, ?_⟩
        walk_at "ws"
        all_goals try (first | exact nq94 hb this | omega)
        · exact ⟨_, by walk_at "subs", rfl, rfl⟩
        · rename_i hne hpos
          have := hD i j hi hj (by (first | exact nq734 hne | omega))
          exact absurd (hl.mpr this) (by (first | exact nq137 hpos | omega))
        · exact ⟨_, by walk_at "subs", rfl, rfl⟩
      · rintro σ ys ⟨rfl, rfl⟩
        exact ⟨_, by walk_at "subs", rfl, rfl⟩
    · rintro σe xs ⟨rfl, rfl⟩
      refine ⟨[], by walk_at "subs", by walk_at "caps", ?_⟩
      walk_at "ws"
      · decide
      refine op_neN0 (xs := []) ?_
      walk_at "ws"
      all_goals first | exact absurd trivial ‹¬True› | exact ⟨_, by walk_at "subs", rfl⟩
  rintro σ rfl
  subst hT'
  have ok1 : IntMulOk ((M 0 0).natAbs : Int) ((M 1 1).natAbs : Int) := mulOk (a := b) (b := b) (by rw [Int.natAbs_natCast]; exact hM _ _ (by (first | exact nq11 | omega)) (by (first | exact nq11 | omega))) (by rw [Int.natAbs_natCast]; exact hM _ _ (by (first | exact nq17 | omega)) (by (first | exact nq17 | omega))) (by (first | exact nq42 hb | omega)) (by (first | exact nq42 hb | omega))
  have ok2 : IntMulOk (((M 0 0).natAbs * (M 1 1).natAbs : Nat) : Int) ((M 2 2).natAbs : Int) := mulOk (a := b + b) (b := b) (by rw [Int.natAbs_natCast, Nat.pow_add]; exact Nat.mul_lt_mul'' (hM _ _ (by (first | exact nq11 | omega)) (by (first | exact nq11 | omega))) (hM _ _ (by (first | exact nq17 | omega)) (by (first | exact nq17 | omega)))) (by rw [Int.natAbs_natCast]; exact hM _ _ (by (first | exact nq18 | omega)) (by (first | exact nq18 | omega))) (by (first | exact nq735 hb | omega)) (by (first | exact nq42 hb | omega))
  walk_at "ws"
  all_goals try (first | (with_reducible first | exact nq11 | exact nq14 | exact nq17 | exact nq18) | omega)
  · rw [sizeLine_is]; simp
  refine op_eq3 ⟨rfl, by simp, by simp⟩ ?_
  walk_at "ws"
  rfl
end

end

section
/-- n turns are enough, and the numbers stay below 2 ^ b -/
def Good (b : Nat) : Nat → (Nat → Nat → Int) → Prop
  | 0, M => Bd b M ∧ Done M 0 ∧ Done M 1
  | n + 1, M => Bd b M ∧ ∀ M', Nx M M' → Good b n M'
theorem Good.bd {b n : Nat} {M : Nat → Nat → Int} (h : Good b n M) : Bd b M := by
  cases n with
  | zero => exact h.1
  | succ n => exact h.1
theorem diag_of {M : Nat → Nat → Int} (h0 : Done M 0) (h1 : Done M 1) : ∀ i j, i < 3 → j < 3 → i ≠ j → M i j = 0 := by
  intro i j hi hj hne
  rcases (show (i = 0 ∧ j = 1) ∨ (i = 0 ∧ j = 2) ∨ (i = 1 ∧ j = 0) ∨ (i = 2 ∧ j = 0) ∨ (i = 1 ∧ j = 2) ∨ (i = 2 ∧ j = 1) by (first | exact nq255 hi hj hne | omega)) with ⟨rfl, rfl⟩ | ⟨rfl, rfl⟩ | ⟨rfl, rfl⟩ | ⟨rfl, rfl⟩ | ⟨rfl, rfl⟩ | ⟨rfl, rfl⟩
  · exact h0.2.1 1 (by decide) (by decide)
  · exact h0.2.1 2 (by decide) (by decide)
  · exact h0.1 1 (by decide) (by decide)
  · exact h0.1 2 (by decide) (by decide)
  · exact h1.2.1 2 (by decide) (by decide)
  · exact h1.1 2 (by decide) (by decide)
theorem told_fin {M : Nat → Nat → Int} (h0 : Done M 0) (h1 : Done M 1) :
    toldD M = .tup [.int ((M 0 0).natAbs : Int), .int ((M 0 0).natAbs * (M 1 1).natAbs : Int), .int ((M 0 0).natAbs * (M 1 1).natAbs * (M 2 2).natAbs : Int)] := by
  have hd := diag_of h0 h1
  have z01 := hd 0 1 (by decide) (by decide) (by decide)
  have z02 := hd 0 2 (by decide) (by decide) (by decide)
  have z10 := hd 1 0 (by decide) (by decide) (by decide)
  have z12 := hd 1 2 (by decide) (by decide) (by decide)
  have z20 := hd 2 0 (by decide) (by decide) (by decide)
  have z21 := hd 2 1 (by decide) (by decide) (by decide)
  have d1 : M 0 0 ∣ M 1 1 := h0.2.2 1 1 (by decide) (by decide) (by decide) (by decide)
  have d2 : M 0 0 ∣ M 2 2 := h0.2.2 2 2 (by decide) (by decide) (by decide) (by decide)
  have d3 : M 1 1 ∣ M 2 2 := h1.2.2 2 2 (by decide) (by decide) (by decide) (by decide)
  have g1 : gcdZ (ents M) = (M 0 0).natAbs := by
    refine Nat.dvd_antisymm ?_ ?_
    · have := dvd_gcdZ.mp (Nat.dvd_refl (gcdZ (ents M))) (M 0 0) (by unfold ents; simp; exact ⟨0, by decide, 0, by decide, rfl⟩)
      exact Int.ofNat_dvd_left.mp this
    · refine dvd_gcdZ.mpr (ents_iff.mpr fun i j hi hj => ?_)
      have e : ((M 0 0).natAbs : Int) ∣ M 0 0 := Int.natAbs_dvd.mpr (Int.dvd_refl _)
      by_cases h : i = j
      · subst h
        rcases (show i = 0 ∨ i = 1 ∨ i = 2 by (first | exact nq13 hi | omega)) with rfl | rfl | rfl
        · exact e
        · exact Int.dvd_trans e d1
        · exact Int.dvd_trans e d2
      · rw [hd i j hi hj h]; exact Int.dvd_zero _
  have m00 : minor M 0 0 = M 0 0 * M 1 1 := by show M 0 0 * M 1 1 - M 0 1 * M 1 0 = _; rw [z01]; grind
  have m11 : minor M 1 1 = M 0 0 * M 2 2 := by show M 0 0 * M 2 2 - M 0 2 * M 2 0 = _; rw [z02]; grind
  have m22 : minor M 2 2 = M 1 1 * M 2 2 := by show M 1 1 * M 2 2 - M 1 2 * M 2 1 = _; rw [z12]; grind
  have mo : ∀ r c, r < 3 → c < 3 → r ≠ c → minor M r c = 0 := by
    intro r c hr hc hne
    rcases (show (r = 0 ∧ c = 1) ∨ (r = 0 ∧ c = 2) ∨ (r = 1 ∧ c = 0) ∨ (r = 2 ∧ c = 0) ∨ (r = 1 ∧ c = 2) ∨ (r = 2 ∧ c = 1) by (first | exact nq255 hr hc hne | omega)) with ⟨rfl, rfl⟩ | ⟨rfl, rfl⟩ | ⟨rfl, rfl⟩ | ⟨rfl, rfl⟩ | ⟨rfl, rfl⟩ | ⟨rfl, rfl⟩
    · show M 0 0 * M 1 2 - M 0 2 * M 1 0 = 0; rw [z12, z10]; grind
    · show M 0 1 * M 1 2 - M 0 2 * M 1 1 = 0; rw [z01, z02]; grind
    · show M 0 0 * M 2 1 - M 0 1 * M 2 0 = 0; rw [z21, z20]; grind
    · show M 1 0 * M 2 1 - M 1 1 * M 2 0 = 0; rw [z10, z20]; grind
    · show M 0 1 * M 2 2 - M 0 2 * M 2 1 = 0; rw [z01, z02]; grind
    · show M 1 0 * M 2 2 - M 1 2 * M 2 0 = 0; rw [z10, z20]; grind
  have g2 : gcdZ (mins M 3) = (M 0 0).natAbs * (M 1 1).natAbs := by
    rw [← Int.natAbs_mul]
    refine Nat.dvd_antisymm ?_ ?_
    · have := dvd_gcdZ.mp (Nat.dvd_refl (gcdZ (mins M 3))) (M 0 0 * M 1 1) (by unfold mins; rw [← m00]; simp; exact ⟨0, by decide, 0, by decide, rfl⟩)
      exact Int.ofNat_dvd_left.mp this
    · refine dvd_gcdZ.mpr fun x hx => ?_
      unfold mins at hx
      obtain ⟨r, hr, hx⟩ := List.mem_flatMap.mp hx
      obtain ⟨c, hc, rfl⟩ := List.mem_map.mp hx
      have hr := List.mem_range.mp hr
      have hc := List.mem_range.mp hc
      have e : ((M 0 0 * M 1 1).natAbs : Int) ∣ M 0 0 * M 1 1 := Int.natAbs_dvd.mpr (Int.dvd_refl _)
      by_cases h : r = c
      · subst h
        rcases (show r = 0 ∨ r = 1 ∨ r = 2 by (first | exact nq13 hr | omega)) with rfl | rfl | rfl
        · rw [m00]; exact e
        · rw [m11]; exact Int.dvd_trans e (Int.mul_dvd_mul (Int.dvd_refl _) d3)
        · rw [m22, Int.mul_comm (M 1 1)]; exact Int.dvd_trans e (Int.mul_dvd_mul d2 (Int.dvd_refl _))
      · rw [mo r c hr hc h]; exact Int.dvd_zero _
  have g3 : (part M 3).natAbs = (M 0 0).natAbs * (M 1 1).natAbs * (M 2 2).natAbs := by
    rw [← Int.natAbs_mul, ← Int.natAbs_mul]
    have : part M 3 = det3 M := rfl
    rw [this, det3_eq, z01, z02, z12]
    congr 1; grind
  show D.tup _ = D.tup _
  rw [g1, g2, g3]; simp
section
variable {prog : Program} {w : World} {hT : Heap} {os0 : OsState} {fa : Nat → Addr}
theorem law_loop (P : Facts hT fa) {U wd : Nat} (hU : U = 2 ^ wd) (h1 : 1 ≤ wd) (h2 : wd ≤ 16) (M : Nat → Nat → Int) (b : Nat) (hb1 : 1 ≤ b) (hb : b < 2 ^ 16) (hG : Good b 80 M) (k : Nat) :
    WXs prog w hT os0 (k + 9) (fnScope 52) ((fnBody 52).drop 6) [("rows", LV.val (mat U M)), ("told", LV.val (toldD M)), ("w", LV.val (.int (wd : Int)))]
      (KEnd fun r _ => r = .bool true) := by
  have hW := two_le hU h1
  obtain ⟨T, hT0⟩ : ∃ T, T = toldD M := ⟨_, rfl⟩
  rw [← hT0]
  show WXs prog w hT os0 (k + 9) (fnScope 52) (_ :: _) _ _
  with_reducible refine' WXs.mid (fun σ => ∃ M', toldD M' = T ∧ Bd b M' ∧ Done M' 0 ∧ Done M' 1 ∧ σ = ([("rows", LV.val (mat U M')), ("told", LV.val T), ("w", LV.val (.int (wd : Int)))] : St)) ?_ ?_
  · walk_at "ws"
    all_goals try (first | (with_reducible first | exact nq736 | exact nq737) | omega)
    refine ⟨fun i σ => ∃ M', toldD M' = T ∧ Good b (80 - i) M' ∧ σ = ([("rows", LV.val (mat U M')), ("told", LV.val T), ("w", LV.val (.int (wd : Int)))] : St), ⟨M, hT0.symm, hG, rfl⟩, ?_, ?_⟩
    · rintro i σ hi ⟨M', ht, hg, rfl⟩
      have hi : i < 80 := hi
      rw [show 80 - i = (79 - i) + 1 by (first | exact nq738 ‹_› | omega)] at hg
      obtain ⟨hbd, hnx⟩ := hg
      try dsimp only
      walk_at "ws"
      refine ⟨7, by (first | exact nq739 | omega), (next_walk P hU h1 h2 M' b hb1 hb hbd 0).mono ?_⟩
      rintro r (⟨rfl, d0, d1⟩ | ⟨M'', rfl, hN⟩)
      · walk_at "ws"
        all_goals first | exact absurd trivial ‹¬True› | exact ⟨_, by walk_at "subs", M', ht, hbd, d0, d1, rfl⟩
      · have hg := hnx M'' hN
        have ht2 : toldD M'' = T := hN.alike.told.trans ht
        walk_at "ws"
        refine OpAt.eq (told_walk P hU h1 h2 M'' b hb hg.bd 0) (by (first | exact nq97 | omega)) ?_
        rw [ht2]
        walk_at "ws"
        subst hT0
        refine op_ne3 ⟨rfl, rfl, rfl⟩ ?_
        walk_at "ws"
        all_goals first | exact absurd trivial ‹¬True› | exact TurnF.next _ (by walk_at "subs") ⟨M'', ht2, by rw [show 80 - (i + 1) = 79 - i by (first | exact nq740 | omega)]; exact hg, rfl⟩
    · rintro σ ⟨M', ht, hg, rfl⟩
      have hg : Good b 0 M' := hg
      exact ⟨rfl, _, by walk_at "subs", M', ht, hg.1, hg.2.1, hg.2.2, rfl⟩
  rintro σ ⟨M', ht, hbd, d0, d1, rfl⟩
  exact law_tail P hU h1 h2 M' b hb1 hb hbd T (ht.symm.trans (told_fin d0 d1)) (diag_of d0 d1) (k + 4)
end

end

section
/-! ## 80 turns are enough, and the numbers stay small -/
theorem JF.new {one two a b c d : Int} (h : JF one two a b c d) (h2 : two ≠ 0) :
    (one ≠ 0 ∧ one ∣ two ∧ a = 1 ∧ b = 0 ∧ d = 1) ∨ (∃ g : Nat, g ≠ 0 ∧ a * one + b * two = g ∧ g ≤ two.natAbs ∧ (one ≠ 0 → 2 * g ≤ one.natAbs)) := by
  rcases h.kind with k | ⟨hn, hg⟩
  · exact .inl k
  · refine .inr ⟨Int.gcd one two, ?_, hg, Nat.le_of_dvd (by (first | exact nq46 h2 | omega)) (Int.gcd_dvd_natAbs_right one two), fun h1 => ?_⟩
    · intro e
      exact h2 (Int.gcd_eq_zero_iff.mp e).2
    · obtain ⟨k, hk⟩ := Int.gcd_dvd_natAbs_left one two
      rcases Nat.lt_or_ge k 2 with hlt | hge
      · exfalso
        rcases (show k = 0 ∨ k = 1 by (first | exact nq166 hlt | omega)) with rfl | rfl
        · (first | exact nq344 h1 hk | omega)
        · rw [Nat.mul_one] at hk
          have : one.natAbs ∣ two.natAbs := hk ▸ Int.gcd_dvd_natAbs_right one two
          exact hn ⟨h1, Int.natAbs_dvd_natAbs.mp this⟩
      · rw [hk, Nat.mul_comm 2]; exact Nat.mul_le_mul_left _ hge
theorem mul_le {x y : Int} {a b : Nat} (hx : x.natAbs ≤ a) (hy : y.natAbs ≤ b) : (x * y).natAbs ≤ a * b := by rw [Int.natAbs_mul]; exact Nat.mul_le_mul hx hy
theorem det_le {R : Nat → Nat → Int} (hR : ∀ i j, i < 3 → j < 3 → (R i j).natAbs ≤ 4) : (det3 R).natAbs ≤ 384 := by
  have m : ∀ i j i' j', i < 3 → j < 3 → i' < 3 → j' < 3 → (R i j * R i' j').natAbs ≤ 16 := fun i j i' j' a b c d => mul_le (hR _ _ a b) (hR _ _ c d)
  have q : ∀ {x y z : Int}, x.natAbs ≤ 4 → y.natAbs ≤ 16 → z.natAbs ≤ 16 → (x * (y - z)).natAbs ≤ 128 := fun {x y z} h1 h2 h3 => mul_le (b := 32) h1 (by (first | exact nq345 h2 h3 | omega))
  rw [det3_eq]
  have e1 := q (hR 0 0 (by decide) (by decide)) (m 1 1 2 2 (by decide) (by decide) (by decide) (by decide)) (m 1 2 2 1 (by decide) (by decide) (by decide) (by decide))
  have e2 := q (hR 0 1 (by decide) (by decide)) (m 1 0 2 2 (by decide) (by decide) (by decide) (by decide)) (m 1 2 2 0 (by decide) (by decide) (by decide) (by decide))
  have e3 := q (hR 0 2 (by decide) (by decide)) (m 1 0 2 1 (by decide) (by decide) (by decide) (by decide)) (m 1 1 2 0 (by decide) (by decide) (by decide) (by decide))
  (first | exact nq346 e1 e2 e3 | omega)
theorem nx_none {M M' : Nat → Nat → Int} (h0 : Done M 0) (h1 : Done M 1) : ¬ Nx M M' := by
  have hD : ∀ t, t < 2 → Done M t := fun t ht => by rcases (show t = 0 ∨ t = 1 by (first | exact nq166 ht | omega)) with rfl | rfl; exact h0; exact h1
  intro h
  cases h with
  | row t o a b c d q1 q2 q3 q4 q5 q6 q7 => exact q6 ((hD t q1).1 o q3 q4)
  | col t o a b c d q1 q2 q3 q4 q5 q6 q7 q8 => exact q7 ((hD t q1).2.1 o q3 q4)
  | put t o c q1 q2 q3 q4 q5 q6 q7 q8 q9 => exact q9 ((hD t q1).2.2 o c q3 q4 q5 q6)
theorem good_done {B n : Nat} {M : Nat → Nat → Int} (hb : Bd B M) (h0 : Done M 0) (h1 : Done M 1) : Good B n M := by
  cases n with
  | zero => exact ⟨hb, h0, h1⟩
  | succ n => exact ⟨hb, fun M' h => absurd h (nx_none h0 h1)⟩
theorem Good.mono {B : Nat} : ∀ {n m : Nat} {M : Nat → Nat → Int}, Good B n M → n ≤ m → Good B m M
  | 0, m, M, h, _ => good_done h.1 h.2.1 h.2.2
  | n + 1, 0, M, h, hm => absurd hm (by (first | exact nq347 | omega))
  | n + 1, m + 1, M, h, hm => ⟨h.1, fun M' hN => (h.2 M' hN).mono (by (first | exact nq348 hm | omega))⟩
/-- what a turn does behind the first corner -/
theorem nx1 {M M' : Nat → Nat → Int} (hd : Done M 0) (h : Nx M M') : Done M' 0 ∧ M' 0 0 = M 0 0 ∧
    ((M 2 1 ≠ 0 ∧ ∃ a b c d, JF (M 1 1) (M 2 1) a b c d ∧ M' 1 1 = a * M 1 1 + b * M 2 1 ∧ M' 1 2 = a * M 1 2 + b * M 2 2 ∧ M' 2 1 = 0 ∧ M' 2 2 = c * M 1 2 + d * M 2 2) ∨
     (M 2 1 = 0 ∧ M 1 2 ≠ 0 ∧ ∃ a b c d, JF (M 1 1) (M 1 2) a b c d ∧ M' 1 1 = a * M 1 1 + b * M 1 2 ∧ M' 2 1 = a * M 2 1 + b * M 2 2 ∧ M' 1 2 = 0 ∧ M' 2 2 = c * M 2 1 + d * M 2 2) ∨
     (M 2 1 = 0 ∧ M 1 2 = 0 ∧ ¬ (M 1 1 ∣ M 2 2) ∧ M' 1 1 = M 1 1 ∧ M' 1 2 = M 2 2 ∧ M' 2 1 = 0 ∧ M' 2 2 = M 2 2)) := by
  obtain ⟨hc, hr, hdv⟩ := hd
  have c1 := hc 1 (by decide) (by decide)
  have c2 := hc 2 (by decide) (by decide)
  have r1 : M 0 1 = 0 := hr 1 (by decide) (by decide)
  have r2 : M 0 2 = 0 := hr 2 (by decide) (by decide)
  have d11 := hdv 1 1 (by decide) (by decide) (by decide) (by decide)
  have d12 := hdv 1 2 (by decide) (by decide) (by decide) (by decide)
  have d21 := hdv 2 1 (by decide) (by decide) (by decide) (by decide)
  have d22 := hdv 2 2 (by decide) (by decide) (by decide) (by decide)
  have mk : ∀ {N : Nat → Nat → Int}, N 1 0 = 0 → N 2 0 = 0 → N 0 1 = 0 → N 0 2 = 0 → N 0 0 = M 0 0 → M 0 0 ∣ N 1 1 → M 0 0 ∣ N 1 2 → M 0 0 ∣ N 2 1 → M 0 0 ∣ N 2 2 → Done N 0 := by
    intro N a1 a2 a3 a4 a5 a6 a7 a8 a9
    refine ⟨fun p p1 p2 => ?_, fun p p1 p2 => ?_, fun o c o1 o2 o3 o4 => ?_⟩
    · rcases (show p = 1 ∨ p = 2 by (first | exact nq50 p1 p2 | omega)) with rfl | rfl <;> assumption
    · show N 0 p = 0
      rcases (show p = 1 ∨ p = 2 by (first | exact nq50 p1 p2 | omega)) with rfl | rfl <;> assumption
    · rw [a5]
      rcases (show o = 1 ∨ o = 2 by (first | exact nq50 o1 o2 | omega)) with rfl | rfl <;> rcases (show c = 1 ∨ c = 2 by (first | exact nq50 o3 o4 | omega)) with rfl | rfl <;> assumption
  cases h with
  | row t o a b c d q1 q2 q3 q4 q5 q6 q7 =>
    rcases (show t = 0 ∨ (t = 1 ∧ o = 2) by (first | exact nq167 q3 q4 | omega)) with rfl | ⟨rfl, rfl⟩
    · exact absurd (hc o q3 q4) q6
    have z : c * M 1 1 + d * M 2 1 = 0 := q7.zero
    refine ⟨mk ?_ ?_ r1 r2 rfl ?_ ?_ ?_ ?_, rfl, .inl ⟨q6, a, b, c, d, q7, rfl, rfl, z, rfl⟩⟩
    · show a * M 1 0 + b * M 2 0 = 0; rw [c1, c2]; grind
    · show c * M 1 0 + d * M 2 0 = 0; rw [c1, c2]; grind
    · exact dvd_lin _ _ d11 d21
    · exact dvd_lin _ _ d12 d22
    · exact dvd_lin _ _ d11 d21
    · exact dvd_lin _ _ d12 d22
  | col t o a b c d q1 q2 q3 q4 q5 q6 q7 q8 =>
    rcases (show t = 0 ∨ (t = 1 ∧ o = 2) by (first | exact nq167 q3 q4 | omega)) with rfl | ⟨rfl, rfl⟩
    · exact absurd (hr o q3 q4) q7
    have z : c * M 1 1 + d * M 1 2 = 0 := q8.zero
    have z0 : M 2 1 = 0 := q5 2 (by decide) (by decide)
    refine ⟨mk c1 c2 ?_ ?_ rfl ?_ ?_ ?_ ?_, rfl, .inr (.inl ⟨z0, q7, a, b, c, d, q8, rfl, rfl, z, rfl⟩)⟩
    · show a * M 0 1 + b * M 0 2 = 0; rw [r1, r2]; grind
    · show c * M 0 1 + d * M 0 2 = 0; rw [r1, r2]; grind
    · exact dvd_lin _ _ d11 d12
    · exact dvd_lin _ _ d11 d12
    · exact dvd_lin _ _ d21 d22
    · exact dvd_lin _ _ d21 d22
  | put t o c q1 q2 q3 q4 q5 q6 q7 q8 q9 =>
    rcases (show t = 0 ∨ (t = 1 ∧ o = 2 ∧ c = 2) by (first | exact nq349 q3 q4 q5 q6 | omega)) with rfl | ⟨rfl, rfl, rfl⟩
    · exact absurd (hdv o c q3 q4 q5 q6) q9
    have z0 : M 2 1 = 0 := q7 2 (by decide) (by decide)
    have z1 : M 1 2 = 0 := q8 2 (by decide) (by decide)
    have e1 : putM M 1 2 1 1 = M 1 1 := by show M 1 1 + M 2 1 = _; rw [z0]; grind
    have e2 : putM M 1 2 1 2 = M 2 2 := by show M 1 2 + M 2 2 = _; rw [z1]; grind
    refine ⟨mk ?_ c2 r1 r2 rfl ?_ ?_ d21 d22, rfl, .inr (.inr ⟨z0, z1, q9, e1, e2, z0, rfl⟩)⟩
    · show M 1 0 + M 2 0 = 0; rw [c1, c2]; grind
    · rw [e1]; exact d11
    · rw [e2]; exact d22

end

section
theorem bd_of {B : Nat} {M : Nat → Nat → Int} (hd : Done M 0) (h0 : (M 0 0).natAbs < 2 ^ B) (h1 : (M 1 1).natAbs < 2 ^ B) (h2 : (M 1 2).natAbs < 2 ^ B) (h3 : (M 2 1).natAbs < 2 ^ B) (h4 : (M 2 2).natAbs < 2 ^ B) : Bd B M := by
  have hp : 0 < 2 ^ B := Nat.two_pow_pos B
  have c1 := hd.1 1 (by decide) (by decide)
  have c2 := hd.1 2 (by decide) (by decide)
  have r1 : M 0 1 = 0 := hd.2.1 1 (by decide) (by decide)
  have r2 : M 0 2 = 0 := hd.2.1 2 (by decide) (by decide)
  intro i j hi hj
  rcases (show i = 0 ∨ i = 1 ∨ i = 2 by (first | exact nq13 hi | omega)) with rfl | rfl | rfl <;> rcases (show j = 0 ∨ j = 1 ∨ j = 2 by (first | exact nq13 hj | omega)) with rfl | rfl | rfl <;> first | assumption | (rw [c1]; exact hp) | (rw [c2]; exact hp) | (rw [r1]; exact hp) | (rw [r2]; exact hp)
theorem done1 {M : Nat → Nat → Int} (h1 : M 2 1 = 0) (h2 : M 1 2 = 0) (h3 : M 1 1 ∣ M 2 2) : Done M 1 := by
  refine ⟨fun p p1 p2 => ?_, fun p p1 p2 => ?_, fun o c o1 o2 o3 o4 => ?_⟩
  · rw [show p = 2 by (first | exact nq77 p1 p2 | omega)]; exact h1
  · rw [show p = 2 by (first | exact nq77 p1 p2 | omega)]; exact h2
  · rw [show o = 2 by (first | exact nq77 o1 o2 | omega), show c = 2 by (first | exact nq77 o3 o4 | omega)]; exact h3
structure S1 (B : Nat) (M : Nat → Nat → Int) : Prop where
  d : Done M 0
  b : Bd B M
theorem S1.fin {B n : Nat} {M : Nat → Nat → Int} (h : S1 B M) (h1 : M 2 1 = 0) (h2 : M 1 2 = 0) (h3 : M 1 1 ∣ M 2 2) : Good B n M := good_done h.b h.d (done1 h1 h2 h3)
theorem JF.low {one two a b c d : Int} {B : Nat} (h : JF one two a b c d) (h2 : two ≠ 0) (b1 : one.natAbs < 2 ^ B) (b2 : two.natAbs < 2 ^ B) : (a * one + b * two).natAbs < 2 ^ B := by
  rcases h.new h2 with ⟨_, _, ha, hb, _⟩ | ⟨g, _, e, hg, _⟩
  · rw [ha, hb]; rw [show 1 * one + 0 * two = one by grind]; exact b1
  · rw [e, Int.natAbs_natCast]; (first | exact nq350 b2 hg | omega)
theorem zA {B : Nat} {M : Nat → Nat → Int} (h : S1 B M) (hr : M 2 1 = 0) (hs : M 2 2 = 0) : Good B 1 M := by
  refine ⟨h.b, fun M' hN => ?_⟩
  obtain ⟨hd, h0, hk⟩ := nx1 h.d hN
  have b0 := h.b 0 0 (by decide) (by decide)
  have b1 := h.b 1 1 (by decide) (by decide)
  have b2 := h.b 1 2 (by decide) (by decide)
  have hp : 0 < 2 ^ B := Nat.two_pow_pos B
  rcases hk with ⟨n, _⟩ | ⟨_, hq, a, b, c, d, hJ, e1, e2, e3, e4⟩ | ⟨_, _, n, _⟩
  · exact absurd hr n
  · have e2 : M' 2 1 = 0 := by rw [e2, hr, hs]; grind
    have e4 : M' 2 2 = 0 := by rw [e4, hr, hs]; grind
    refine S1.fin ⟨hd, bd_of hd (by rw [h0]; exact b0) (by rw [e1]; exact hJ.low hq b1 b2) (by rw [e3]; exact hp) (by rw [e2]; exact hp) (by rw [e4]; exact hp)⟩ e2 e3 (by rw [e4]; exact Int.dvd_zero _)
  · exact absurd (by rw [hs]; exact Int.dvd_zero _) n
theorem zB {B : Nat} {M : Nat → Nat → Int} (h : S1 B M) (hq : M 1 2 = 0) (hs : M 2 2 = 0) : Good B 1 M := by
  refine ⟨h.b, fun M' hN => ?_⟩
  obtain ⟨hd, h0, hk⟩ := nx1 h.d hN
  have b0 := h.b 0 0 (by decide) (by decide)
  have b1 := h.b 1 1 (by decide) (by decide)
  have b2 := h.b 2 1 (by decide) (by decide)
  have hp : 0 < 2 ^ B := Nat.two_pow_pos B
  rcases hk with ⟨hr, a, b, c, d, hJ, e1, e2, e3, e4⟩ | ⟨_, n, _⟩ | ⟨_, _, n, _⟩
  · have e2 : M' 1 2 = 0 := by rw [e2, hq, hs]; grind
    have e4 : M' 2 2 = 0 := by rw [e4, hq, hs]; grind
    refine S1.fin ⟨hd, bd_of hd (by rw [h0]; exact b0) (by rw [e1]; exact hJ.low hr b1 b2) (by rw [e2]; exact hp) (by rw [e3]; exact hp) (by rw [e4]; exact hp)⟩ e3 e2 (by rw [e4]; exact Int.dvd_zero _)
  · exact absurd hq n
  · exact absurd (by rw [hs]; exact Int.dvd_zero _) n
structure SA (B e : Nat) (M : Nat → Nat → Int) : Prop extends S1 B M where
  r : M 2 1 = 0
  p : M 1 1 ≠ 0
  s : M 2 2 ≠ 0
  k : (M 1 1).natAbs * (M 2 2).natAbs ≤ 384
  e : (M 1 1).natAbs < 2 ^ (e + 1)
structure SB (B e : Nat) (M : Nat → Nat → Int) : Prop extends S1 B M where
  q : M 1 2 = 0
  p : M 1 1 ≠ 0
  s : M 2 2 ≠ 0
  k : (M 1 1).natAbs * (M 2 2).natAbs ≤ 384
  e : (M 1 1).natAbs < 2 ^ (e + 1)
  r : (M 2 1).natAbs ≤ 384
theorem less {g n e : Nat} (hg : g ≠ 0) (h : 2 * g ≤ n) (hn : n < 2 ^ (e + 1)) : ∃ e', e = e' + 1 ∧ g < 2 ^ (e' + 1) := by
  cases e with
  | zero => (first | exact nq351 hg h hn | omega)
  | succ e' => exact ⟨e', rfl, by rw [Nat.pow_succ] at hn; (first | exact nq352 h hn | omega)⟩
/-- the cofactors keep the product of the corners -/
theorem JF.prod {one two a b c d s : Int} (h : JF one two a b c d) (h1 : one ≠ 0) (hs : s ≠ 0) (hk : one.natAbs * s.natAbs ≤ 384) :
    (a * one + b * two) * d = one ∧ d * s ≠ 0 ∧ (a * one + b * two).natAbs * (d * s).natAbs ≤ 384 ∧ (b * s).natAbs ≤ 384 ∧ a * one + b * two ≠ 0 := by
  have e : (a * one + b * two) * d = one := by
    have := h.det; have := h.zero; grind
  have hd : d ≠ 0 := by rintro rfl; rw [Int.mul_zero] at e; exact h1 e.symm
  refine ⟨e, Int.mul_ne_zero hd hs, ?_, ?_, ?_⟩
  · rw [← Int.natAbs_mul, show (a * one + b * two) * (d * s) = (a * one + b * two) * d * s by grind, e, Int.natAbs_mul]; exact hk
  · have := h.bb
    rw [Int.natAbs_mul]
    exact Nat.le_trans (Nat.mul_le_mul_right _ (show b.natAbs ≤ one.natAbs by (first | exact nq353 h1 this | omega))) hk
  · intro z; rw [z, Int.zero_mul] at e; exact h1 e.symm
theorem le_384 {x y : Nat} (h : x * y ≤ 384) (hx : x ≠ 0) : y ≤ 384 := Nat.le_trans (Nat.le_mul_of_pos_left _ (by (first | exact nq168 hx | omega))) h
section
variable {B e : Nat} (hB : 9 ≤ B)
include hB
theorem small_B {x : Nat} (h : x ≤ 384) : x < 2 ^ B := Nat.lt_of_lt_of_le (Nat.lt_of_le_of_lt h (by decide : 384 < 2 ^ 9)) (Nat.pow_le_pow_right (by decide) hB)
theorem gA1 (ih : ∀ e', e = e' + 1 → ∀ M, SB B e' M → Good B (4 * e) M) {M : Nat → Nat → Int} (h : SA B e M) (hq : ¬ (M 1 1 ∣ M 1 2)) : Good B (4 * e + 1) M := by
  refine ⟨h.b, fun M' hN => ?_⟩
  obtain ⟨hd, h0, hk⟩ := nx1 h.d hN
  have b0 := h.b 0 0 (by decide) (by decide)
  rcases hk with ⟨n, _⟩ | ⟨_, hq0, a, b, c, d, hJ, e1, e2, e3, e4⟩ | ⟨_, n, _⟩
  · exact absurd h.r n
  · obtain ⟨f1, f2, f3, f4, f5⟩ := hJ.prod h.p h.s h.k
    have e2 : M' 2 1 = b * M 2 2 := by rw [e2, h.r]; grind
    have e4 : M' 2 2 = d * M 2 2 := by rw [e4, h.r]; grind
    rcases hJ.new hq0 with ⟨_, n, _⟩ | ⟨g, g0, ge, _, gl⟩
    · exact absurd n hq
    · obtain ⟨e', he, hg⟩ := less g0 (gl h.p) h.e
      have bl := hJ.low hq0 (h.b 1 1 (by decide) (by decide)) (h.b 1 2 (by decide) (by decide))
      refine ih e' he M' ⟨⟨hd, bd_of hd (by rw [h0]; exact b0) (by rw [e1]; exact bl) (by rw [e3]; exact Nat.two_pow_pos B) (by rw [e2]; exact small_B hB f4) (by rw [e4]; exact small_B hB (le_384 f3 (by (first | exact nq169 f5 | omega))))⟩, e3, by rw [e1]; exact f5, by rw [e4]; exact f2, by rw [e1, e4]; exact f3, by rw [e1, ge, Int.natAbs_natCast]; exact hg, by rw [e2]; exact f4⟩
  · exact absurd (by rw [n]; exact Int.dvd_zero _) hq
theorem gA2 (ih : ∀ e', e = e' + 1 → ∀ M, SB B e' M → Good B (4 * e) M) {M : Nat → Nat → Int} (h : SA B e M) (hq : M 1 2 = 0) : Good B (4 * e + 2) M := by
  refine ⟨h.b, fun M' hN => ?_⟩
  obtain ⟨hd, h0, hk⟩ := nx1 h.d hN
  have b0 := h.b 0 0 (by decide) (by decide)
  rcases hk with ⟨n, _⟩ | ⟨_, n, _⟩ | ⟨_, _, n, e1, e2, e3, e4⟩
  · exact absurd h.r n
  · exact absurd hq n
  · refine gA1 hB ih ⟨⟨hd, bd_of hd (by rw [h0]; exact b0) (by rw [e1]; exact h.b 1 1 (by decide) (by decide)) (by rw [e2]; exact h.b 2 2 (by decide) (by decide)) (by rw [e3]; exact Nat.two_pow_pos B) (by rw [e4]; exact h.b 2 2 (by decide) (by decide))⟩, e3, by rw [e1]; exact h.p, by rw [e4]; exact h.s, by rw [e1, e4]; exact h.k, by rw [e1]; exact h.e⟩ (by rw [e1, e2]; exact n)
theorem gA3 (ih : ∀ e', e = e' + 1 → ∀ M, SB B e' M → Good B (4 * e) M) {M : Nat → Nat → Int} (h : SA B e M) : Good B (4 * e + 3) M := by
  by_cases hq0 : M 1 2 = 0
  · exact (gA2 hB ih h hq0).mono (by (first | exact nq170 | omega))
  by_cases hq : M 1 1 ∣ M 1 2
  · refine ⟨h.b, fun M' hN => ?_⟩
    obtain ⟨hd, h0, hk⟩ := nx1 h.d hN
    have b0 := h.b 0 0 (by decide) (by decide)
    rcases hk with ⟨n, _⟩ | ⟨_, _, a, b, c, d, hJ, e1, e2, e3, e4⟩ | ⟨_, n, _⟩
    · exact absurd h.r n
    · rcases hJ.kind with ⟨_, _, ha, hb, hd'⟩ | ⟨n, _⟩
      · have e1 : M' 1 1 = M 1 1 := by rw [e1, ha, hb]; grind
        have e2 : M' 2 1 = 0 := by rw [e2, ha, hb, h.r]; grind
        have e4 : M' 2 2 = M 2 2 := by rw [e4, hd', h.r]; grind
        exact gA2 hB ih ⟨⟨hd, bd_of hd (by rw [h0]; exact b0) (by rw [e1]; exact h.b 1 1 (by decide) (by decide)) (by rw [e3]; exact Nat.two_pow_pos B) (by rw [e2]; exact Nat.two_pow_pos B) (by rw [e4]; exact h.b 2 2 (by decide) (by decide))⟩, e2, by rw [e1]; exact h.p, by rw [e4]; exact h.s, by rw [e1, e4]; exact h.k, by rw [e1]; exact h.e⟩ e3
      · exact absurd ⟨h.p, hq⟩ n
    · exact absurd n hq0
  · exact (gA1 hB ih h hq).mono (by (first | exact nq354 | omega))
theorem gdB (ih : ∀ e', e = e' + 1 → (∀ M, SB B e' M → Good B (4 * e) M) ∧ (∀ M, SA B e' M → Good B (4 * e) M)) {M : Nat → Nat → Int} (h : SB B e M) : Good B (4 * e + 4) M := by
  have ih1 := fun e' he => (ih e' he).1
  by_cases hr0 : M 2 1 = 0
  · exact (gA2 hB ih1 ⟨⟨h.d, h.b⟩, hr0, h.p, h.s, h.k, h.e⟩ h.q).mono (by (first | exact nq355 | omega))
  refine ⟨h.b, fun M' hN => ?_⟩
  obtain ⟨hd, h0, hk⟩ := nx1 h.d hN
  have b0 := h.b 0 0 (by decide) (by decide)
  rcases hk with ⟨_, a, b, c, d, hJ, e1, e2, e3, e4⟩ | ⟨n, _⟩ | ⟨n, _⟩
  · have e2 : M' 1 2 = b * M 2 2 := by rw [e2, h.q]; grind
    have e4 : M' 2 2 = d * M 2 2 := by rw [e4, h.q]; grind
    obtain ⟨f1, f2, f3, f4, f5⟩ := hJ.prod h.p h.s h.k
    have bl := hJ.low hr0 (h.b 1 1 (by decide) (by decide)) (h.b 2 1 (by decide) (by decide))
    have base : S1 B M' := ⟨hd, bd_of hd (by rw [h0]; exact b0) (by rw [e1]; exact bl) (by rw [e2]; exact small_B hB f4) (by rw [e3]; exact Nat.two_pow_pos B) (by rw [e4]; exact small_B hB (le_384 f3 (by (first | exact nq169 f5 | omega))))⟩
    rcases hJ.new hr0 with ⟨_, _, ha, hb, hd'⟩ | ⟨g, g0, ge, _, gl⟩
    · have e1 : M' 1 1 = M 1 1 := by rw [e1, ha, hb]; grind
      have e2 : M' 1 2 = 0 := by rw [e2, hb]; grind
      have e4 : M' 2 2 = M 2 2 := by rw [e4, hd']; grind
      exact (gA2 hB ih1 ⟨base, e3, by rw [e1]; exact h.p, by rw [e4]; exact h.s, by rw [e1, e4]; exact h.k, by rw [e1]; exact h.e⟩ e2).mono (by (first | exact nq170 | omega))
    · obtain ⟨e', he, hg⟩ := less g0 (gl h.p) h.e
      exact ((ih e' he).2 M' ⟨base, e3, by rw [e1]; exact f5, by rw [e4]; exact f2, by rw [e1, e4]; exact f3, by rw [e1, ge, Int.natAbs_natCast]; exact hg⟩).mono (by (first | exact nq356 | omega))
  · exact absurd n hr0
  · exact absurd n hr0
theorem gAB : ∀ e, (∀ M, SB B e M → Good B (4 * e + 4) M) ∧ (∀ M, SA B e M → Good B (4 * e + 3) M)
  | 0 => ⟨fun M h => gdB hB (fun e' he => absurd he (by (first | exact nq108 | omega))) h, fun M h => gA3 hB (fun e' he => absurd he (by (first | exact nq108 | omega))) h⟩
  | e + 1 => by
    obtain ⟨i1, i2⟩ := gAB e
    refine ⟨fun M h => gdB hB (fun e' he => ?_) h, fun M h => gA3 hB (fun e' he M' h' => ?_) h⟩
    · obtain rfl : e = e' := by (first | exact nq109 he | omega)
      exact ⟨fun M' h' => (i1 M' h').mono (by (first | exact nq171 | omega)), fun M' h' => (i2 M' h').mono (by (first | exact nq357 | omega))⟩
    · obtain rfl : e = e' := by (first | exact nq109 he | omega)
      exact (i1 M' h').mono (by (first | exact nq171 | omega))
omit hB in
theorem zC {M : Nat → Nat → Int} (h : S1 B M) (hr : M 2 1 = 0) (hp0 : M 1 1 = 0) (hq : M 1 2 ≠ 0) : Good B 2 M := by
  refine ⟨h.b, fun M' hN => ?_⟩
  obtain ⟨hd, h0, hk⟩ := nx1 h.d hN
  have b00 := h.b 0 0 (by decide) (by decide)
  rcases hk with ⟨n, _⟩ | ⟨_, _, a, b, c, d, hJ, e1, e2, e3, e4⟩ | ⟨_, n, _⟩
  · exact absurd hr n
  · have hd0 : d = 0 := by
      have z := hJ.zero
      rw [hp0, Int.mul_zero, Int.zero_add] at z
      exact (Int.mul_eq_zero.mp z).resolve_right hq
    have hb1 : b.natAbs ≤ 1 := by have := hJ.bb; rw [hp0] at this; simpa using this
    have e2 : M' 2 1 = b * M 2 2 := by rw [e2, hr]; grind
    have e4 : M' 2 2 = 0 := by rw [e4, hr, hd0]; grind
    have br : (b * M 2 2).natAbs < 2 ^ B := by
      rw [Int.natAbs_mul]
      exact Nat.lt_of_le_of_lt (Nat.mul_le_mul_right _ hb1) (by rw [Nat.one_mul]; exact h.b 2 2 (by decide) (by decide))
    exact zB ⟨hd, bd_of hd (by rw [h0]; exact b00) (by rw [e1]; exact hJ.low hq (h.b 1 1 (by decide) (by decide)) (h.b 1 2 (by decide) (by decide))) (by rw [e3]; exact Nat.two_pow_pos B) (by rw [e2]; exact br) (by rw [e4]; exact Nat.two_pow_pos B)⟩ e3 e4
  · exact absurd n hq
/-- the second corner, its first state -/
theorem phase1 {b0 : Nat} (hb1 : 1 ≤ b0) (hb : b0 + b0 + 1 ≤ B) {M : Nat → Nat → Int} (hd : Done M 0) (hM : Bd b0 M) (hk : (M 1 1 * M 2 2 - M 1 2 * M 2 1).natAbs ≤ 384) : Good B 36 M := by
  have hMB : Bd B M := hM.mono (by (first | exact nq358 hb | omega))
  have b00 := hMB 0 0 (by decide) (by decide)
  have hp : 0 < 2 ^ B := Nat.two_pow_pos B
  have clear : ∀ N, S1 B N → N 2 1 = 0 → N 1 1 ≠ 0 → (N 1 1 * N 2 2).natAbs ≤ 384 → Good B 35 N := by
    intro N hS hr hp0 hk
    by_cases hs : N 2 2 = 0
    · exact (zA hS hr hs).mono (by (first | exact nq359 | omega))
    · rw [Int.natAbs_mul] at hk
      exact (gAB hB 8).2 N ⟨hS, hr, hp0, hs, hk, Nat.lt_of_le_of_lt (le_384 (by rw [Nat.mul_comm]; exact hk) (by (first | exact nq360 hs | omega))) (by decide)⟩
  by_cases hr : M 2 1 = 0
  · rw [hr, Int.mul_zero, Int.sub_zero] at hk
    by_cases hp0 : M 1 1 = 0
    · by_cases hq : M 1 2 = 0
      · by_cases hs : M 2 2 = 0
        · exact S1.fin ⟨hd, hMB⟩ hr hq (by rw [hs]; exact Int.dvd_zero _)
        · have hS : S1 B M := ⟨hd, hMB⟩
          refine Good.mono (n := 3) ⟨hMB, fun M' hN => ?_⟩ (by (first | exact nq361 | omega))
          obtain ⟨hd', h0, hk'⟩ := nx1 hd hN
          rcases hk' with ⟨n, _⟩ | ⟨_, n, _⟩ | ⟨_, _, n, e1, e2, e3, e4⟩
          · exact absurd hr n
          · exact absurd hq n
          · exact zC ⟨hd', bd_of hd' (by rw [h0]; exact b00) (by rw [e1]; exact hMB 1 1 (by decide) (by decide)) (by rw [e2]; exact hMB 2 2 (by decide) (by decide)) (by rw [e3]; exact hp) (by rw [e4]; exact hMB 2 2 (by decide) (by decide))⟩ e3 (by rw [e1]; exact hp0) (by rw [e2]; exact hs)
      · exact (zC ⟨hd, hMB⟩ hr hp0 hq).mono (by (first | exact nq362 | omega))
    · exact (clear M ⟨hd, hMB⟩ hr hp0 hk).mono (by (first | exact nq363 | omega))
  · refine ⟨hMB, fun M' hN => ?_⟩
    obtain ⟨hd', h0, hk'⟩ := nx1 hd hN
    rcases hk' with ⟨_, a, b, c, d, hJ, e1, e2, e3, e4⟩ | ⟨n, _⟩ | ⟨n, _⟩
    · have p1 := hM 1 1 (by decide) (by decide)
      have p2 := hM 1 2 (by decide) (by decide)
      have p3 := hM 2 1 (by decide) (by decide)
      have p4 := hM 2 2 (by decide) (by decide)
      have one : 1 < 2 ^ b0 := Nat.one_lt_two_pow (by (first | exact nq51 hb1 | omega))
      have ja : a.natAbs < 2 ^ b0 := by have := hJ.ba; (first | exact nq172 hr p3 this | omega)
      have jb : b.natAbs < 2 ^ b0 := by have := hJ.bb; (first | exact nq173 hr p1 p3 this | omega)
      have jc : c.natAbs < 2 ^ b0 := by have := hJ.bc; (first | exact nq172 hr p3 this | omega)
      have jd : d.natAbs < 2 ^ b0 := by have := hJ.bd; (first | exact nq173 hr p1 p3 this | omega)
      have up : ∀ {x y z u : Int}, x.natAbs < 2 ^ b0 → y.natAbs < 2 ^ b0 → z.natAbs < 2 ^ b0 → u.natAbs < 2 ^ b0 → (x * y + z * u).natAbs < 2 ^ B := fun h1 h2 h3 h4 =>
        Nat.lt_of_lt_of_le (add_bits (mul_bits h1 h2) (mul_bits h3 h4)) (Nat.pow_le_pow_right (by decide) hb)
      have hS : S1 B M' := ⟨hd', bd_of hd' (by rw [h0]; exact b00) (by rw [e1]; exact up ja p1 jb p3) (by rw [e2]; exact up ja p2 jb p4) (by rw [e3]; exact hp) (by rw [e4]; exact up jc p2 jd p4)⟩
      have hp0 : M' 1 1 ≠ 0 := by
        rcases hJ.new hr with ⟨n1, _, ha, hb', _⟩ | ⟨g, g0, ge, _, _⟩
        · rw [e1, ha, hb']; rw [show 1 * M 1 1 + 0 * M 2 1 = M 1 1 by grind]; exact n1
        · rw [e1, ge]; (first | exact nq174 g0 | omega)
      refine clear M' hS e3 hp0 ?_
      have : M' 1 1 * M' 2 2 = M 1 1 * M 2 2 - M 1 2 * M 2 1 := by
        rw [e1, e4]
        have h1 := hJ.det
        have h2 := hJ.zero
        grind
      rw [this]; exact hk
    · exact absurd n hr
    · exact absurd n hr
end

end

section
theorem nx0 {M M' : Nat → Nat → Int} (h : Nx M M') : Done M 0 ∨
    (∃ o a b c d, (o = 1 ∨ (o = 2 ∧ M 1 0 = 0)) ∧ M o 0 ≠ 0 ∧ JF (M 0 0) (M o 0) a b c d ∧ M' = joinM M 0 o a b c d) ∨
    (M 1 0 = 0 ∧ M 2 0 = 0 ∧ ∃ o a b c d, (o = 1 ∨ (o = 2 ∧ M 0 1 = 0)) ∧ M 0 o ≠ 0 ∧ JF (M 0 0) (M 0 o) a b c d ∧ M' = tr (joinM (tr M) 0 o a b c d)) ∨
    (M 1 0 = 0 ∧ M 2 0 = 0 ∧ M 0 1 = 0 ∧ M 0 2 = 0 ∧ ∃ o c, (o = 1 ∨ o = 2) ∧ (c = 1 ∨ c = 2) ∧ ¬ (M 0 0 ∣ M o c) ∧ M' = putM M 0 o) := by
  cases h with
  | row t o a b c d q1 q2 q3 q4 q5 q6 q7 =>
    rcases (show t = 0 ∨ 0 < t by (first | exact nq110 | omega)) with rfl | ht
    · refine .inr (.inl ⟨o, a, b, c, d, ?_, q6, q7, rfl⟩)
      rcases (show o = 1 ∨ o = 2 by (first | exact nq78 q4 q3 | omega)) with rfl | rfl
      · exact .inl rfl
      · exact .inr ⟨rfl, q5 1 (by decide) (by decide)⟩
    · exact .inl (q2 0 ht)
  | col t o a b c d q1 q2 q3 q4 q5 q6 q7 q8 =>
    rcases (show t = 0 ∨ 0 < t by (first | exact nq110 | omega)) with rfl | ht
    · refine .inr (.inr (.inl ⟨q5 1 (by decide) (by decide), q5 2 (by decide) (by decide), o, a, b, c, d, ?_, q7, q8, rfl⟩))
      rcases (show o = 1 ∨ o = 2 by (first | exact nq78 q4 q3 | omega)) with rfl | rfl
      · exact .inl rfl
      · exact .inr ⟨rfl, q6 1 (by decide) (by decide)⟩
    · exact .inl (q2 0 ht)
  | put t o c q1 q2 q3 q4 q5 q6 q7 q8 q9 =>
    rcases (show t = 0 ∨ 0 < t by (first | exact nq110 | omega)) with rfl | ht
    · exact .inr (.inr (.inr ⟨q7 1 (by decide) (by decide), q7 2 (by decide) (by decide), q8 1 (by decide) (by decide), q8 2 (by decide) (by decide), o, c, by (first | exact nq78 q4 q3 | omega), by (first | exact nq78 q6 q5 | omega), q9, rfl⟩))
    · exact .inl (q2 0 ht)
theorem join_bd {M : Nat → Nat → Int} {b0 o : Nat} {a b c d : Int} (hM : Bd b0 M) (hb : 1 ≤ b0) (ho : o < 3) (h : JF (M 0 0) (M o 0) a b c d) : Bd (b0 + b0 + 1) (joinM M 0 o a b c d) := by
  have p1 := hM 0 0 (by decide) (by decide)
  have p2 := hM o 0 ho (by decide)
  have one : 1 < 2 ^ b0 := Nat.one_lt_two_pow (by (first | exact nq51 hb | omega))
  have ja : a.natAbs < 2 ^ b0 := by have := h.ba; (first | exact nq79 p2 one this | omega)
  have jb : b.natAbs < 2 ^ b0 := by have := h.bb; (first | exact nq79 p1 one this | omega)
  have jc : c.natAbs < 2 ^ b0 := by have := h.bc; (first | exact nq79 p2 one this | omega)
  have jd : d.natAbs < 2 ^ b0 := by have := h.bd; (first | exact nq79 p1 one this | omega)
  intro i j hi hj
  unfold joinM
  split
  · exact add_bits (mul_bits ja (hM 0 j (by decide) hj)) (mul_bits jb (hM o j ho hj))
  · split
    · exact add_bits (mul_bits jc (hM 0 j (by decide) hj)) (mul_bits jd (hM o j ho hj))
    · exact hM.mono (by (first | exact nq111 | omega)) i j hi hj
theorem Bd.tr {b : Nat} {M : Nat → Nat → Int} (h : Bd b M) : Bd b (tr M) := fun i j hi hj => h j i hj hi
/-- a turn of columns, the first column clear -/
theorem col_bd {M : Nat → Nat → Int} {b0 o : Nat} {a b c d : Int} (hM : Bd b0 M) (ho : o = 1 ∨ o = 2) (h1 : M 1 0 = 0) (h2 : M 2 0 = 0) (h4 : (M 0 0).natAbs ≤ 4) (hn : M 0 o ≠ 0) (h : JF (M 0 0) (M 0 o) a b c d) : Bd (b0 + 2) (Smith.tr (joinM (Smith.tr M) 0 o a b c d)) := by
  have jb : b.natAbs ≤ 4 := by have := h.bb; (first | exact nq175 h4 this | omega)
  have jd : d.natAbs ≤ 4 := by have := h.bd; (first | exact nq175 h4 this | omega)
  have f4 : ∀ {x y : Int}, x.natAbs ≤ 4 → y.natAbs < 2 ^ b0 → (x * y).natAbs < 2 ^ (b0 + 2) := fun {x y} hx hy => by
    rw [Int.natAbs_mul, Nat.pow_add, Nat.mul_comm]
    exact Nat.lt_of_le_of_lt (Nat.mul_le_mul_left _ hx) (Nat.mul_lt_mul_of_pos_right hy (by decide))
  intro i j hi hj
  show (joinM (Smith.tr M) 0 o a b c d j i).natAbs < _
  have mono := hM.mono (show b0 ≤ b0 + 2 by (first | exact nq176 | omega))
  have hi0 : i = 0 ∨ M i 0 = 0 := by
    rcases (show i = 0 ∨ i = 1 ∨ i = 2 by (first | exact nq13 hi | omega)) with rfl | rfl | rfl
    · exact .inl rfl
    · exact .inr h1
    · exact .inr h2
  have lo : o < 3 := by (first | exact nq112 ho | omega)
  unfold joinM
  split
  · show (a * M i 0 + b * M i o).natAbs < _
    rcases hi0 with rfl | e
    · exact Nat.lt_of_lt_of_le (h.low hn (hM 0 0 (by decide) (by decide)) (hM 0 o (by decide) lo)) (Nat.pow_le_pow_right (by decide) (by (first | exact nq176 | omega)))
    · rw [e, Int.mul_zero, Int.zero_add]; exact f4 jb (hM i o hi lo)
  · split
    · show (c * M i 0 + d * M i o).natAbs < _
      rcases hi0 with rfl | e
      · rw [h.zero]; exact Nat.two_pow_pos _
      · rw [e, Int.mul_zero, Int.zero_add]; exact f4 jd (hM i o hi lo)
    · exact mono i j hi hj
noncomputable def lim0 : Nat → Nat | 0 => 7000 | 1 => 1700 | _ => 420
theorem lim0_le : ∀ e, lim0 e ≤ 7000 | 0 => by decide | 1 => by decide | _ + 2 => by show 420 ≤ 7000; decide
theorem lim0_ge : ∀ e, 420 ≤ lim0 e | 0 => by decide | 1 => by decide | _ + 2 => by show 420 ≤ 420; decide
theorem lim0_step : ∀ e, e ≤ 1 → 4 * lim0 (e + 1) + 5 ≤ lim0 e | 0, _ => by decide | 1, _ => by decide | _ + 2, h => absurd h (by (first | exact nq364 | omega))
/-- the first corner is there -/
structure C0 (e b : Nat) (M : Nat → Nat → Int) : Prop where
  n : M 0 0 ≠ 0
  l : (M 0 0).natAbs < 2 ^ (e + 1)
  f : (M 0 0).natAbs ≤ 4
  b : Bd b M
  h : (det3 M).natAbs ≤ 384
theorem C0.mono {e b b' : Nat} {M : Nat → Nat → Int} (h : C0 e b M) (hb : b ≤ b') : C0 e b' M := ⟨h.n, h.l, h.f, h.b.mono hb, h.h⟩
theorem block_det {M : Nat → Nat → Int} (hd : Done M 0) (h : (det3 M).natAbs ≤ 384) : (M 1 1 * M 2 2 - M 1 2 * M 2 1).natAbs ≤ 384 := by
  have c1 := hd.1 1 (by decide) (by decide)
  have c2 := hd.1 2 (by decide) (by decide)
  have r1 : M 0 1 = 0 := hd.2.1 1 (by decide) (by decide)
  have r2 : M 0 2 = 0 := hd.2.1 2 (by decide) (by decide)
  have e : det3 M = M 0 0 * (M 1 1 * M 2 2 - M 1 2 * M 2 1) := by rw [det3_eq, c1, c2, r1, r2]; grind
  by_cases z : M 0 0 = 0
  · have d := fun o c h1 h2 h3 h4 => Int.zero_dvd.mp (z ▸ hd.2.2 o c h1 h2 h3 h4)
    rw [d 1 1 (by decide) (by decide) (by decide) (by decide), d 1 2 (by decide) (by decide) (by decide) (by decide)]; simp
  · rw [e, Int.natAbs_mul] at h
    exact Nat.le_trans (Nat.le_mul_of_pos_left _ (by (first | exact nq365 z | omega))) h
theorem to_phase1 {M : Nat → Nat → Int} {b : Nat} (hb : b ≤ 29999) (hM : Bd b M) (hd : Done M 0) (h : (det3 M).natAbs ≤ 384) : Good 60000 36 M :=
  phase1 (B := 60000) (by decide) (b0 := 29999) (by decide) (by decide) hd (hM.mono hb) (block_det hd h)
theorem Nx.det {M M' : Nat → Nat → Int} (h : Nx M M') (hk : (det3 M).natAbs ≤ 384) : (det3 M').natAbs ≤ 384 := by rw [h.alike.d]; exact hk
section
variable {e : Nat}
/-- a smaller corner -/
theorem C0.next {b b' : Nat} {M M' : Nat → Nat → Int} {g : Nat} (h : C0 e b M) (g0 : g ≠ 0) (gl : 2 * g ≤ (M 0 0).natAbs) (hg : M' 0 0 = g) (hb : Bd b' M') (hk : (det3 M').natAbs ≤ 384) : ∃ e', e = e' + 1 ∧ C0 e' b' M' := by
  obtain ⟨e', he, hl⟩ := less g0 gl h.l
  have := h.f
  exact ⟨e', he, by rw [hg]; (first | exact nq174 g0 | omega), by rw [hg, Int.natAbs_natCast]; exact hl, by rw [hg, Int.natAbs_natCast]; (first | exact nq366 gl this | omega), hb, hk⟩
variable (he2 : e ≤ 2) (ih : ∀ e', e = e' + 1 → ∀ M, C0 e' (lim0 e') M → Good 60000 (36 + 7 * e) M)
include he2 ih
theorem evt {b' : Nat} {M : Nat → Nat → Int} {e' : Nat} (he : e = e' + 1) (h : C0 e' b' M) (hb : b' ≤ 4 * lim0 e + 5) : Good 60000 (36 + 7 * e) M := by
  subst he
  exact ih e' rfl M (h.mono (Nat.le_trans hb (lim0_step e' (by (first | exact nq367 he2 | omega)))))
/-- a turn of columns that makes the corner smaller -/
theorem col_evt {M : Nat → Nat → Int} {o : Nat} {a b c d : Int} (h : C0 e (4 * lim0 e + 3) M) (h1 : M 1 0 = 0) (h2 : M 2 0 = 0) (ho : o = 1 ∨ o = 2) (hn : M 0 o ≠ 0) (hJ : JF (M 0 0) (M 0 o) a b c d) (hnd : ¬ (M 0 0 ∣ M 0 o))
    (hN : Nx M (Smith.tr (joinM (Smith.tr M) 0 o a b c d))) : Good 60000 (36 + 7 * e) (Smith.tr (joinM (Smith.tr M) 0 o a b c d)) := by
  rcases hJ.new hn with ⟨_, n, _⟩ | ⟨g, g0, ge, _, gl⟩
  · exact absurd n hnd
  · obtain ⟨e', he, hc⟩ := h.next g0 (gl h.n) (M' := Smith.tr (joinM (Smith.tr M) 0 o a b c d)) ge (col_bd h.b ho h1 h2 h.f hn hJ) (hN.det h.h)
    exact evt he2 ih he hc (by (first | exact nq368 | omega))
omit he2 ih in
/-- a turn of columns that only clears -/
theorem col_div {b' : Nat} {M : Nat → Nat → Int} {o : Nat} {a b c d : Int} (h : C0 e b' M) (h1 : M 1 0 = 0) (h2 : M 2 0 = 0) (ho : o = 1 ∨ o = 2) (hJ : JF (M 0 0) (M 0 o) a b c d) (hd : M 0 0 ∣ M 0 o)
    (hN : Nx M (Smith.tr (joinM (Smith.tr M) 0 o a b c d))) : ∃ M', M' = Smith.tr (joinM (Smith.tr M) 0 o a b c d) ∧ C0 e b' M' ∧ M' 1 0 = 0 ∧ M' 2 0 = 0 ∧ M' 0 o = 0 ∧ ∀ p, p ≠ o → M' 0 p = M 0 p := by
  rcases hJ.kind with ⟨_, _, ha, hb, hd'⟩ | ⟨n, _⟩
  · refine ⟨_, rfl, ?_, ?_, ?_, ?_, ?_⟩
    · have e00 : Smith.tr (joinM (Smith.tr M) 0 o a b c d) 0 0 = M 0 0 := by show a * M 0 0 + b * M 0 o = _; rw [ha, hb]; grind
      refine ⟨by rw [e00]; exact h.n, by rw [e00]; exact h.l, by rw [e00]; exact h.f, fun i j hi hj => ?_, hN.det h.h⟩
      have hp : 0 < 2 ^ b' := Nat.two_pow_pos _
      show (joinM (Smith.tr M) 0 o a b c d j i).natAbs < _
      by_cases j0 : j = 0
      · subst j0; rw [join_at]; show (a * M i 0 + b * M i o).natAbs < _
        rw [ha, hb, show 1 * M i 0 + 0 * M i o = M i 0 by grind]; exact h.b i 0 hi (by decide)
      · by_cases jo : j = o
        · subst jo; rw [join_other (by (first | exact nq369 j0 | omega))]; show (c * M i 0 + d * M i j).natAbs < _
          rcases (show i = 0 ∨ i = 1 ∨ i = 2 by (first | exact nq13 hi | omega)) with rfl | rfl | rfl
          · rw [hJ.zero]; exact hp
          · rw [h1, hd', show c * 0 + 1 * M 1 j = M 1 j by grind]; exact h.b 1 j hi hj
          · rw [h2, hd', show c * 0 + 1 * M 2 j = M 2 j by grind]; exact h.b 2 j hi hj
        · rw [join_rest j0 jo]; exact h.b i j hi hj
    · show a * M 1 0 + b * M 1 o = 0; rw [h1, hb]; grind
    · show a * M 2 0 + b * M 2 o = 0; rw [h2, hb]; grind
    · show joinM (Smith.tr M) 0 o a b c d o 0 = 0
      rw [join_other (by (first | exact nq370 ho | omega))]; exact hJ.zero
    · intro p hp
      show joinM (Smith.tr M) 0 o a b c d p 0 = M 0 p
      by_cases p0 : p = 0
      · subst p0; rw [join_at]; show a * M 0 0 + b * M 0 o = _; rw [ha, hb]; grind
      · rw [join_rest p0 hp]
  · exact absurd ⟨h.n, hd⟩ n
/-- the column is clear, a number of the row is no multiple of the corner -/
theorem y1a {M : Nat → Nat → Int} (h : C0 e (4 * lim0 e + 3) M) (h1 : M 1 0 = 0) (h2 : M 2 0 = 0) (hr : M 0 1 = 0) (hn : ¬ (M 0 0 ∣ M 0 2)) : Good 60000 (36 + 7 * e + 1) M := by
  have hl := lim0_le e
  refine ⟨h.b.mono (by (first | exact nq52 hl | omega)), fun M' hN => ?_⟩
  rcases nx0 hN with hd | ⟨o, a, b, c, d, ho, n, _⟩ | ⟨_, _, o, a, b, c, d, ho, n, hJ, rfl⟩ | ⟨_, _, _, r2, _⟩
  · exact absurd (hd.2.1 2 (by decide) (by decide)) fun (z : M 0 2 = 0) => hn (by rw [z]; exact Int.dvd_zero _)
  · rcases ho with rfl | ⟨rfl, _⟩
    · exact absurd h1 n
    · exact absurd h2 n
  · rcases ho with rfl | ⟨rfl, _⟩
    · exact absurd hr n
    · exact col_evt he2 ih h h1 h2 (.inr rfl) n hJ hn hN
  · exact absurd (by rw [r2]; exact Int.dvd_zero _) hn
theorem y1 {M : Nat → Nat → Int} (h : C0 e (4 * lim0 e + 3) M) (h1 : M 1 0 = 0) (h2 : M 2 0 = 0) (hn : ¬ (M 0 0 ∣ M 0 1) ∨ ¬ (M 0 0 ∣ M 0 2)) : Good 60000 (36 + 7 * e + 2) M := by
  have hl := lim0_le e
  by_cases hr : M 0 1 = 0
  · refine (y1a he2 ih h h1 h2 hr ?_).mono (by (first | exact nq371 | omega))
    rcases hn with n | n
    · exact absurd (by rw [hr]; exact Int.dvd_zero _) n
    · exact n
  refine ⟨h.b.mono (by (first | exact nq52 hl | omega)), fun M' hN => ?_⟩
  rcases nx0 hN with hd | ⟨o, a, b, c, d, ho, n, _⟩ | ⟨_, _, o, a, b, c, d, ho, n, hJ, rfl⟩ | ⟨_, _, r1, _, _⟩
  · exact absurd (hd.2.1 1 (by decide) (by decide)) hr
  · rcases ho with rfl | ⟨rfl, _⟩
    · exact absurd h1 n
    · exact absurd h2 n
  · rcases ho with rfl | ⟨rfl, z⟩
    · by_cases hdv : M 0 0 ∣ M 0 1
      · obtain ⟨M', e', hC, k1, k2, k3, k4⟩ := col_div h h1 h2 (.inl rfl) hJ hdv hN
        rw [← e']
        refine y1a he2 ih hC k1 k2 k3 ?_
        rw [k4 0 (by decide), k4 2 (by decide)]
        exact hn.resolve_left fun q => q hdv
      · exact (col_evt he2 ih h h1 h2 (.inl rfl) n hJ hdv hN).mono (by (first | exact nq372 | omega))
    · exact absurd z hr
  · exact absurd r1 hr
theorem y2a {M : Nat → Nat → Int} (h : C0 e (4 * lim0 e + 3) M) (h1 : M 1 0 = 0) (h2 : M 2 0 = 0) (r1 : M 0 1 = 0) (r2 : M 0 2 = 0) : Good 60000 (36 + 7 * e + 3) M := by
  have hl := lim0_le e
  by_cases hD : Done M 0
  · exact (to_phase1 (by (first | exact nq373 hl | omega)) h.b hD h.h).mono (by (first | exact nq374 | omega))
  refine ⟨h.b.mono (by (first | exact nq52 hl | omega)), fun M' hN => ?_⟩
  have hk := hN.det h.h
  rcases nx0 hN with hd | ⟨o, a, b, c, d, ho, n, _⟩ | ⟨_, _, o, a, b, c, d, ho, n, _⟩ | ⟨_, _, _, _, o, c, ho, hc, hn, rfl⟩
  · exact absurd hd hD
  · rcases ho with rfl | ⟨rfl, _⟩
    · exact absurd h1 n
    · exact absurd h2 n
  · rcases ho with rfl | ⟨rfl, _⟩
    · exact absurd r1 n
    · exact absurd r2 n
  · have mo : M o 0 = 0 := by rcases ho with rfl | rfl <;> assumption
    have e00 : putM M 0 o 0 0 = M 0 0 := by show M 0 0 + M o 0 = _; rw [mo]; grind
    have e01 : putM M 0 o 0 1 = M o 1 := by show M 0 1 + M o 1 = _; rw [r1]; grind
    have e02 : putM M 0 o 0 2 = M o 2 := by show M 0 2 + M o 2 = _; rw [r2]; grind
    refine y1 he2 ih ⟨by rw [e00]; exact h.n, by rw [e00]; exact h.l, by rw [e00]; exact h.f, fun i j hi hj => ?_, hk⟩ h1 h2 ?_
    · have lo : o < 3 := by (first | exact nq112 ho | omega)
      rcases (show i = 0 ∨ i = 1 ∨ i = 2 by (first | exact nq13 hi | omega)) with rfl | rfl | rfl
      · rcases (show j = 0 ∨ j = 1 ∨ j = 2 by (first | exact nq13 hj | omega)) with rfl | rfl | rfl
        · rw [e00]; exact h.b _ _ hi hj
        · rw [e01]; exact h.b _ _ lo hj
        · rw [e02]; exact h.b _ _ lo hj
      · exact h.b _ _ hi hj
      · exact h.b _ _ hi hj
    · rw [e00, e01, e02]
      rcases hc with rfl | rfl
      · exact .inl hn
      · exact .inr hn
theorem y2 {M : Nat → Nat → Int} (h : C0 e (4 * lim0 e + 3) M) (h1 : M 1 0 = 0) (h2 : M 2 0 = 0) (r1 : M 0 1 = 0) (hd2 : M 0 0 ∣ M 0 2) : Good 60000 (36 + 7 * e + 4) M := by
  have hl := lim0_le e
  by_cases r2 : M 0 2 = 0
  · exact (y2a he2 ih h h1 h2 r1 r2).mono (by (first | exact nq375 | omega))
  refine ⟨h.b.mono (by (first | exact nq52 hl | omega)), fun M' hN => ?_⟩
  rcases nx0 hN with hd | ⟨o, a, b, c, d, ho, n, _⟩ | ⟨_, _, o, a, b, c, d, ho, n, hJ, rfl⟩ | ⟨_, _, _, n, _⟩
  · exact absurd (hd.2.1 2 (by decide) (by decide)) r2
  · rcases ho with rfl | ⟨rfl, _⟩
    · exact absurd h1 n
    · exact absurd h2 n
  · rcases ho with rfl | ⟨rfl, _⟩
    · exact absurd r1 n
    · obtain ⟨M', e', hC, k1, k2, k3, k4⟩ := col_div h h1 h2 (.inr rfl) hJ hd2 hN
      rw [← e']
      exact y2a he2 ih hC k1 k2 (by rw [k4 1 (by decide)]; exact r1) k3
  · exact absurd n r2
/-- the column is clear -/
theorem y {M : Nat → Nat → Int} (h : C0 e (4 * lim0 e + 3) M) (h1 : M 1 0 = 0) (h2 : M 2 0 = 0) : Good 60000 (36 + 7 * e + 5) M := by
  have hl := lim0_le e
  by_cases hn : ¬ (M 0 0 ∣ M 0 1) ∨ ¬ (M 0 0 ∣ M 0 2)
  · exact (y1 he2 ih h h1 h2 hn).mono (by (first | exact nq376 | omega))
  have d1 : M 0 0 ∣ M 0 1 := Classical.byContradiction fun q => hn (.inl q)
  have d2 : M 0 0 ∣ M 0 2 := Classical.byContradiction fun q => hn (.inr q)
  by_cases r1 : M 0 1 = 0
  · exact (y2 he2 ih h h1 h2 r1 d2).mono (by (first | exact nq377 | omega))
  refine ⟨h.b.mono (by (first | exact nq52 hl | omega)), fun M' hN => ?_⟩
  rcases nx0 hN with hd | ⟨o, a, b, c, d, ho, n, _⟩ | ⟨_, _, o, a, b, c, d, ho, n, hJ, rfl⟩ | ⟨_, _, n, _⟩
  · exact absurd (hd.2.1 1 (by decide) (by decide)) r1
  · rcases ho with rfl | ⟨rfl, _⟩
    · exact absurd h1 n
    · exact absurd h2 n
  · rcases ho with rfl | ⟨rfl, z⟩
    · obtain ⟨M', e', hC, k1, k2, k3, k4⟩ := col_div h h1 h2 (.inl rfl) hJ d1 hN
      rw [← e']
      exact y2 he2 ih hC k1 k2 k3 (by rw [k4 0 (by decide), k4 2 (by decide)]; exact d2)
    · exact absurd z r1
  · exact absurd n r1
/-- a turn of rows -/
theorem row_turn {b0 : Nat} (hb0 : 1 ≤ b0) (hb : b0 + b0 + 1 ≤ 4 * lim0 e + 3) {M : Nat → Nat → Int} {o n : Nat} {a b c d : Int} (h : C0 e b0 M) (ho : o = 1 ∨ (o = 2 ∧ M 1 0 = 0)) (hn : M o 0 ≠ 0) (hJ : JF (M 0 0) (M o 0) a b c d) (hN : Nx M (joinM M 0 o a b c d)) (hle : 36 + 7 * e ≤ n)
    (hdiv : ∀ M', C0 e (b0 + b0 + 1) M' → M' o 0 = 0 → (∀ p, p ≠ o → M' p 0 = M p 0) → Good 60000 n M') : Good 60000 n (joinM M 0 o a b c d) := by
  have lo : o < 3 := by (first | exact nq113 ho | omega)
  have bd := join_bd h.b hb0 lo hJ
  have z : joinM M 0 o a b c d o 0 = 0 := by rw [join_other (by (first | exact nq378 ho | omega))]; exact hJ.zero
  rcases hJ.new hn with ⟨_, _, ha, hb', _⟩ | ⟨g, g0, ge, _, gl⟩
  · have e00 : joinM M 0 o a b c d 0 0 = M 0 0 := by rw [join_at, ha, hb']; grind
    refine hdiv _ ⟨by rw [e00]; exact h.n, by rw [e00]; exact h.l, by rw [e00]; exact h.f, bd, hN.det h.h⟩ z fun p hp => ?_
    by_cases p0 : p = 0
    · subst p0; exact e00
    · exact join_rest p0 hp 0
  · obtain ⟨e', he, hc⟩ := h.next g0 (gl h.n) (M' := joinM M 0 o a b c d) (by rw [join_at]; exact ge) bd (hN.det h.h)
    exact (evt he2 ih he hc (by (first | exact nq379 hb | omega))).mono hle
theorem x1 {M : Nat → Nat → Int} (h : C0 e (2 * lim0 e + 1) M) (h1 : M 1 0 = 0) : Good 60000 (36 + 7 * e + 6) M := by
  have hl := lim0_le e
  by_cases h2 : M 2 0 = 0
  · exact (y he2 ih (h.mono (by (first | exact nq380 | omega))) h1 h2).mono (by (first | exact nq381 | omega))
  refine ⟨h.b.mono (by (first | exact nq382 hl | omega)), fun M' hN => ?_⟩
  rcases nx0 hN with hd | ⟨o, a, b, c, d, ho, n, hJ, rfl⟩ | ⟨_, n, _⟩ | ⟨_, n, _⟩
  · exact absurd (hd.1 2 (by decide) (by decide)) h2
  · refine row_turn he2 ih (by (first | exact nq383 | omega)) (by (first | exact nq177 | omega)) h ho n hJ hN (by (first | exact nq384 | omega)) fun M' hC z k => ?_
    rcases ho with rfl | ⟨rfl, _⟩
    · exact absurd h1 n
    · exact y he2 ih (hC.mono (by (first | exact nq177 | omega))) (by rw [k 1 (by decide)]; exact h1) z
  · exact absurd n h2
  · exact absurd n h2
theorem x2 {M : Nat → Nat → Int} (h : C0 e (lim0 e) M) : Good 60000 (36 + 7 * e + 7) M := by
  have hl := lim0_le e
  have hg := lim0_ge e
  by_cases h1 : M 1 0 = 0
  · exact (x1 he2 ih (h.mono (by (first | exact nq385 | omega))) h1).mono (by (first | exact nq386 | omega))
  refine ⟨h.b.mono (by (first | exact nq387 hl | omega)), fun M' hN => ?_⟩
  rcases nx0 hN with hd | ⟨o, a, b, c, d, ho, n, hJ, rfl⟩ | ⟨n, _⟩ | ⟨n, _⟩
  · exact absurd (hd.1 1 (by decide) (by decide)) h1
  · refine row_turn he2 ih (by (first | exact nq388 hg | omega)) (by (first | exact nq389 | omega)) h ho n hJ hN (by (first | exact nq390 | omega)) fun M' hC z k => ?_
    rcases ho with rfl | ⟨rfl, z1⟩
    · exact x1 he2 ih (hC.mono (by (first | exact nq391 | omega))) z
    · exact absurd z1 h1
  · exact absurd n h1
  · exact absurd n h1
end
theorem phase0 : ∀ e, e ≤ 2 → ∀ M, C0 e (lim0 e) M → Good 60000 (36 + 7 * (e + 1)) M
  | 0, he, M, h => x2 he (fun e' q => absurd q (by (first | exact nq108 | omega))) h
  | e + 1, he, M, h => x2 he (fun e' q => by obtain rfl : e = e' := by (first | exact nq109 q | omega)
                                             exact phase0 e (by (first | exact nq392 he | omega))) h
/-- every grid of small numbers ends within 80 turns -/
theorem good80 (M : Nat → Nat → Int) (hM : ∀ i j, i < 3 → j < 3 → (M i j).natAbs ≤ 4) : Good 60000 80 M := by
  have det4 : ∀ {N : Nat → Nat → Int}, (∀ i j, i < 3 → j < 3 → (N i j).natAbs ≤ 4) → (det3 N).natAbs ≤ 384 := fun h => det_le h
  have bd4 : ∀ {N : Nat → Nat → Int}, (∀ i j, i < 3 → j < 3 → (N i j).natAbs ≤ 4) → Bd 3 N := fun h i j hi hj => Nat.lt_of_le_of_lt (h i j hi hj) (by decide)
  have start : ∀ {N : Nat → Nat → Int}, N 0 0 ≠ 0 → (N 0 0).natAbs ≤ 4 → Bd 7 N → (det3 N).natAbs ≤ 384 → Good 60000 57 N := fun n l b k =>
    phase0 2 (by decide) _ ⟨n, Nat.lt_of_le_of_lt l (by decide), l, b.mono (by decide), k⟩
  -- a corner of nought
  have ev : ∀ {N : Nat → Nat → Int} {two a b c d : Int}, (∀ i j, i < 3 → j < 3 → (N i j).natAbs ≤ 4) → JF (N 0 0) two a b c d → N 0 0 = 0 → two ≠ 0 → two.natAbs ≤ 4 → a * N 0 0 + b * two ≠ 0 ∧ (a * N 0 0 + b * two).natAbs ≤ 4 := by
    intro N two a b c d _ hJ z h2 hl
    rcases hJ.new h2 with ⟨n, _⟩ | ⟨g, g0, ge, gl, _⟩
    · exact absurd z n
    · rw [ge, Int.natAbs_natCast]; (first | exact nq393 hl g0 gl | omega)
  have c1 : ∀ N : Nat → Nat → Int, (∀ i j, i < 3 → j < 3 → (N i j).natAbs ≤ 4) → N 0 0 = 0 → N 1 0 = 0 → N 2 0 = 0 → (N 0 1 ≠ 0 ∨ N 0 2 ≠ 0) → Good 60000 58 N := by
    intro N hN z h1 h2 hr
    refine ⟨(bd4 hN).mono (by decide), fun M' hX => ?_⟩
    have hk := hX.det (det4 hN)
    rcases nx0 hX with hd | ⟨o, a, b, c, d, ho, n, _⟩ | ⟨_, _, o, a, b, c, d, ho, n, hJ, rfl⟩ | ⟨_, _, r1, r2, _⟩
    · rcases hr with n | n
      · exact absurd (hd.2.1 1 (by decide) (by decide)) n
      · exact absurd (hd.2.1 2 (by decide) (by decide)) n
    · rcases ho with rfl | ⟨rfl, _⟩
      · exact absurd h1 n
      · exact absurd h2 n
    · have lo : o < 3 := by (first | exact nq113 ho | omega)
      obtain ⟨q1, q2⟩ := ev hN hJ z n (hN 0 o (by decide) lo)
      have := join_bd (M := tr N) (bd4 hN).tr (by decide) lo hJ
      exact start (N := tr (joinM (tr N) 0 o a b c d)) q1 q2 this.tr hk
    · exact (hr.elim (fun n => absurd r1 n) fun n => absurd r2 n)
  by_cases z : M 0 0 = 0
  · by_cases h1 : M 1 0 = 0 ∧ M 2 0 = 0
    · obtain ⟨h1, h2⟩ := h1
      by_cases hr : M 0 1 ≠ 0 ∨ M 0 2 ≠ 0
      · exact (c1 M hM z h1 h2 hr).mono (by decide)
      · have r1 : M 0 1 = 0 := Classical.byContradiction fun q => hr (.inl q)
        have r2 : M 0 2 = 0 := Classical.byContradiction fun q => hr (.inr q)
        by_cases hD : Done M 0
        · exact (to_phase1 (by decide) (bd4 hM) hD (det4 hM)).mono (by decide)
        refine Good.mono (n := 59) ⟨(bd4 hM).mono (by decide), fun M' hX => ?_⟩ (by decide)
        rcases nx0 hX with hd | ⟨o, a, b, c, d, ho, n, _⟩ | ⟨_, _, o, a, b, c, d, ho, n, _⟩ | ⟨_, _, _, _, o, c, ho, hc, hn, rfl⟩
        · exact absurd hd hD
        · rcases ho with rfl | ⟨rfl, _⟩
          · exact absurd h1 n
          · exact absurd h2 n
        · rcases ho with rfl | ⟨rfl, _⟩
          · exact absurd r1 n
          · exact absurd r2 n
        · have lo : o < 3 := by (first | exact nq112 ho | omega)
          have mo : M o 0 = 0 := by rcases ho with rfl | rfl <;> assumption
          have e00 : putM M 0 o 0 0 = 0 := by show M 0 0 + M o 0 = _; rw [z, mo]; rfl
          have e01 : putM M 0 o 0 1 = M o 1 := by show M 0 1 + M o 1 = _; rw [r1]; grind
          have e02 : putM M 0 o 0 2 = M o 2 := by show M 0 2 + M o 2 = _; rw [r2]; grind
          refine c1 _ (fun i j hi hj => ?_) e00 h1 h2 ?_
          · rcases (show i = 0 ∨ i = 1 ∨ i = 2 by (first | exact nq13 hi | omega)) with rfl | rfl | rfl
            · rcases (show j = 0 ∨ j = 1 ∨ j = 2 by (first | exact nq13 hj | omega)) with rfl | rfl | rfl
              · rw [e00]; decide
              · rw [e01]; exact hM _ _ lo hj
              · rw [e02]; exact hM _ _ lo hj
            · exact hM _ _ hi hj
            · exact hM _ _ hi hj
          · rw [e01, e02]
            rw [z, Int.zero_dvd] at hn
            rcases hc with rfl | rfl
            · exact .inl hn
            · exact .inr hn
    · refine Good.mono (n := 58) ⟨(bd4 hM).mono (by decide), fun M' hX => ?_⟩ (by decide)
      have hk := hX.det (det4 hM)
      rcases nx0 hX with hd | ⟨o, a, b, c, d, ho, n, hJ, rfl⟩ | ⟨k1, k2, _⟩ | ⟨k1, k2, _⟩
      · exact absurd ⟨hd.1 1 (by decide) (by decide), hd.1 2 (by decide) (by decide)⟩ h1
      · have lo : o < 3 := by (first | exact nq113 ho | omega)
        obtain ⟨q1, q2⟩ := ev hM hJ z n (hM o 0 lo (by decide))
        exact start (N := joinM M 0 o a b c d) q1 q2 (join_bd (bd4 hM) (by decide) lo hJ) hk
      · exact absurd ⟨k1, k2⟩ h1
      · exact absurd ⟨k1, k2⟩ h1
  · exact (start z (hM 0 0 (by decide) (by decide)) ((bd4 hM).mono (by decide)) (det4 hM)).mono (by decide)

end

section
section
variable {prog : Program} {w : World} {hT : Heap} {os0 : OsState} {fa : Nat → Addr}
theorem gcdL_gcdZ (is : List Int) : gcdL (is.map Int.natAbs) = gcdZ is := by unfold gcdL gcdZ; rw [List.foldl_map]
theorem pySlice_IL (is : List Int) (lo hi : Option Int) : pySlice (IL is) lo hi = IL (pySlice is lo hi) := by
  unfold IL pySlice; simp [lowB, highB, List.map_drop, List.map_take]
theorem slice10 (is : List Int) : (pySlice is none (some 10)).length ≤ 10 := by
  unfold pySlice lowB highB
  have : clipAt is.length 10 ≤ 10 := by unfold clipAt; (first | exact nq721 | omega)
  simp; (first | exact nq722 this | omega)
theorem IL_get {is : List Int} {i : Nat} (h : i < is.length) : (IL is)[i]?.getD D.none = .int (is.getD i 0) := by rw [List.getD_eq_getElem?_getD]; simp [IL, h]
theorem ext_snoc {f f' : Nat → D} {n : Nat} {d : D} (h : ∀ i, i < n → f' i = f i) (hd : f' n = d) : (List.range n).map f ++ [d] = (List.range (n + 1)).map f' := by
  rw [← LR_snoc, hd]; congr 1; exact (List.map_congr_left fun i hi => (h i (List.mem_range.mp hi)).symm)
theorem pre_len (R : Nat → Nat → Int) : ∀ i, ((List.range i).flatMap fun i => (List.range 3).map (R i)).length = 3 * i
  | 0 => rfl
  | i + 1 => by rw [show List.range (i + 1) = List.range i ++ [i] from List.range_succ, List.flatMap_append, List.length_append, pre_len R i]; simp; (first | exact nq235 | omega)
theorem law_walk (P : Facts hT fa) {f : Addr} (hf : Fn hT 52 f) (is : List Int) (hl : is.length ≤ 63) (hgood : ∀ M, (∀ i j, i < 3 → j < 3 → (M i j).natAbs ≤ 4) → Good 60000 80 M) (k : Nat) :
    Op prog w hT os0 (k + 10) [.lst (IL is)] (callT (.ref f)) fun d => d = .bool true := by
  refine fn_opF hf P.nolimit (xs := ["script"]) (fun pm cd doc vs h => len1 (vs := vs) h fun _ => rfl) fun Q hQ => ?_
  refine W.sub [("script", LV.val (.lst (IL is)))] (by walk_at "subs") (WXs.mid (fun σ => ∃ js : List Int, js.length ≤ 10 ∧ σ = ([("stone", LV.own Option.none [.int ((0 : Nat) : Int), .lst (IL js)])] : St)) ?_ ?_)
  · refine WX.assign rfl rfl (WL.list (WA.cons rfl (WE.int (WA.cons rfl (WE.map ⟨by decide, by decide, by decide, by decide⟩ ?_)))))
    refine WI.list rfl (WE.slice ?_)
    walk_at "ws"
    · rw [IL_len, sizeLine_is]; (first | exact nq723 hl | omega)
    have hs := slice10 is
    rw [pySlice_IL]
    generalize pySlice is none (some 10) = ks at hs
    refine ⟨[], fun i => .int ((ks.getD i 0).natAbs : Int), by walk_at "subs", by walk_at "caps", by rw [IL_len, sizeLine_is]; (first | exact nq724 hs | omega), fun i hi => ?_, ?_⟩
    · rw [IL_len] at hi
      try dsimp only
      rw [IL_get hi]
      walk_at "ws"
      · congr 1; split <;> (first | (with_reducible first | exact nq91 ‹_› | exact nq92 ‹_›) | omega)
      · walk_at "subs"
    · walk_at "ws"
      · rw [sizeLine_is]; simp
      · rw [IL_len, show (LR ks.length fun i => D.int ((ks.getD i 0).natAbs : Int)) = .lst (IL ((List.range ks.length).map fun i => ((ks.getD i 0).natAbs : Int))) from congrArg D.lst (IL_LR _ _)]
        exact ⟨_, by walk_at "subs", _, by simp; (first | exact nq725 hs | omega), rfl⟩
  rintro σ ⟨js, hjs, rfl⟩
  with_reducible refine' WXs.mid (fun σ => ∃ wd : Nat, 3 ≤ wd ∧ wd ≤ 8 ∧ σ = ([("w", LV.val (.int (wd : Int))), ("stone", LV.own Option.none [.int ((1 : Nat) : Int), .lst (IL js)])] : St)) ?_ ?_
  · walk_at "ws"
    refine ⟨1, by (first | exact nq250 | omega), (smoothed_walk P 0 (by decide) js (by (first | exact nq251 hjs | omega)) 6 (by decide) 0).mono ?_⟩
    rintro d xs' ⟨v, rfl, hv, rfl⟩
    walk_at "ws"
    rw [show (3 : Int) + (v : Int) = ((3 + v : Nat) : Int) by push_cast; rfl]
    exact ⟨_, by walk_at "subs", 3 + v, by (first | exact nq726 | omega), by (first | exact nq727 hv | omega), rfl⟩
  rintro σ ⟨wd, hw1, hw2, rfl⟩
  obtain ⟨U, hU⟩ : ∃ U, U = 2 ^ wd := ⟨_, rfl⟩
  have hW := two_le hU (by (first | exact nq31 hw1 | omega))
  have l4 : ∀ z : Int, z.natAbs ≤ 4 → (lim U z.natAbs).length ≤ 3 := fun z hz => len_bits hW (by (first | exact nq728 hz | omega))
  with_reducible refine' WXs.mid (fun σ => ∃ R : Nat → Nat → Int, (∀ i j, i < 3 → j < 3 → (R i j).natAbs ≤ 4) ∧ σ = ([("rows", LV.val (mat U R)), ("w", LV.val (.int (wd : Int)))] : St)) ?_ ?_
  · refine WX.assignS rfl (by intro env he; cases env; dsimp only at he; subst he; rfl) (WL.val ?_)
    refine WE.comp ⟨by decide, by decide, by decide, by decide⟩ ?_
    walk_at "wi"
    walk_at "ws"
    all_goals try (first | (with_reducible first | exact nq25 | exact nq26) | omega)
    refine ⟨[("stone", LV.own Option.none [.int ((1 : Nat) : Int), .lst (IL js)]), ("w", LV.val (.int (wd : Int)))], _, by walk_at "subs", by walk_at "caps",
      CLoop.one (fun i σ xs => ∃ R : Nat → Nat → Int, (∀ a c, (R a c).natAbs ≤ 4) ∧ σ = ([("stone", LV.own Option.none [.int ((1 + 3 * i : Nat) : Int), .lst (IL js)]), ("w", LV.val (.int (wd : Int)))] : St) ∧ xs = (List.range i).map fun a => zrow U (R a))
        ⟨fun _ _ => 0, fun _ _ => Nat.zero_le _, rfl, rfl⟩ (fun i σ xs hi ⟨_, _, _, e⟩ => by rw [e, LR_len, sizeLine_is]; have hi : i < 3 := hi; (first | exact nq139 ‹_› | omega)) ?_, ?_⟩
    · rintro i σ xs hi ⟨R, hR, rfl, rfl⟩
      have hi : i < 3 := hi
      refine WE.comp ⟨by decide, by decide, by decide, by decide⟩ ?_
      walk_at "wi"
      walk_at "ws"
      all_goals try (first | (with_reducible first | exact nq25 | exact nq26) | omega)
      refine ⟨[("stone", LV.own Option.none [.int ((1 + 3 * i : Nat) : Int), .lst (IL js)]), ("w", LV.val (.int (wd : Int)))], _, by walk_at "subs", by walk_at "caps",
        CLoop.one (fun j σ ys => ∃ r : Nat → Int, (∀ c, (r c).natAbs ≤ 4) ∧ σ = ([("stone", LV.own Option.none [.int ((1 + 3 * i + j : Nat) : Int), .lst (IL js)]), ("w", LV.val (.int (wd : Int)))] : St) ∧ ys = (List.range j).map fun c => Z U (r c))
          ⟨fun _ => 0, fun _ => Nat.zero_le _, rfl, rfl⟩ (fun j σ xs hj ⟨_, _, _, e⟩ => by rw [e, LR_len, sizeLine_is]; have hj : j < 3 := hj; (first | exact nq139 ‹_› | omega)) ?_, ?_⟩
      · rintro j σ ys hj ⟨r, hr, rfl, rfl⟩
        have hj : j < 3 := hj
        walk_at "ws"
        refine ⟨1, by (first | exact nq250 | omega), (smoothed_walk P (1 + 3 * i + j) (by (first | exact nq729 ‹_› ‹_› | omega)) js (by (first | exact nq251 hjs | omega)) 9 (by decide) 0).mono ?_⟩
        rintro d xs' ⟨v, rfl, hv, rfl⟩
        walk_at "ws"
        refine OpAt.eq (law_signed_walk P hU (by (first | exact nq31 hw1 | omega)) (by (first | exact nq36 hw2 | omega)) ((v : Int) - 4) (Nat.lt_of_le_of_lt (l4 _ (by (first | exact nq252 hv | omega))) (by decide)) 0) (by (first | exact nq97 | omega)) ?_
        refine ⟨[("stone", LV.own Option.none [.int ((1 + 3 * i + (j + 1) : Nat) : Int), .lst (IL js)]), ("w", LV.val (.int (wd : Int)))], by walk_at "subs", fun c => if c < j then r c else (v : Int) - 4, fun c => ?_, rfl, ext_snoc (fun c hc => ?_) ?_⟩
        · show (if c < j then r c else (v : Int) - 4).natAbs ≤ 4
          split
          · exact hr c
          · (first | exact nq252 hv | omega)
        · show Z U (if c < j then r c else (v : Int) - 4) = _
          rw [if_pos hc]
        · show Z U (if j < j then r j else (v : Int) - 4) = _
          rw [if_neg (by (first | exact nq253 | omega))]
      · rintro σe ys ⟨r, hr, rfl, rfl⟩
        refine ⟨[("stone", LV.own Option.none [.int ((1 + 3 * i + 3 : Nat) : Int), .lst (IL js)]), ("w", LV.val (.int (wd : Int)))], by walk_at "subs", by walk_at "caps", ?_⟩
        refine ⟨[("stone", LV.own Option.none [.int ((1 + 3 * (i + 1) : Nat) : Int), .lst (IL js)]), ("w", LV.val (.int (wd : Int)))], by walk_at "subs", fun a c => if a < i then R a c else r c, fun a c => ?_, rfl, ext_snoc (fun a ha => zrow_congr fun c => ?_) (zrow_congr fun c => ?_)⟩
        · show (if a < i then R a c else r c).natAbs ≤ 4
          split
          · exact hR a c
          · exact hr c
        · show (if a < i then R a c else r c) = _
          rw [if_pos ha]
        · show (if i < i then R i c else r c) = _
          rw [if_neg (by (first | exact nq253 | omega))]
    · rintro σe xs ⟨R, hR, rfl, rfl⟩
      exact ⟨[("w", LV.val (.int (wd : Int)))], by walk_at "subs", by walk_at "caps", rfl, _, by walk_at "subs", R, fun a c _ _ => hR a c, rfl⟩
  rintro σ ⟨R, hR, rfl⟩
  have hG := hgood R hR
  have hB : Bd 3 R := fun i j hi hj => Nat.lt_of_le_of_lt (hR i j hi hj) (by decide)
  with_reducible refine' WXs.mid (fun σ => σ = ([("told", LV.val (toldD R)), ("rows", LV.val (mat U R)), ("w", LV.val (.int (wd : Int)))] : St)) ?_ ?_
  · walk_at "ws"
    refine OpAt.eq (told_walk P hU (by (first | exact nq31 hw1 | omega)) (by (first | exact nq36 hw2 | omega)) R 3 (by (first | exact nq730 | omega)) hB 0) (by (first | exact nq97 | omega)) ?_
    walk_at "ws"
    exact ⟨_, by walk_at "subs", rfl⟩
  rintro σ rfl
  with_reducible refine' WXs.mid (fun σ => σ = ([("told", LV.val (toldD R)), ("rows", LV.val (mat U R)), ("w", LV.val (.int (wd : Int)))] : St)) ?_ ?_
  · walk_at "ws"
    refine OpAt.eq (det_walk P hU (by (first | exact nq31 hw1 | omega)) (by (first | exact nq36 hw2 | omega)) R 3 (by decide) (by decide) hB 0) (by (first | exact nq731 | omega)) ?_
    walk_at "ws"
    refine OpAt.eq (s_abs_walk P _ 0) (by (first | exact nq254 | omega)) ?_
    walk_at "ws"
    refine OpAt.eq (law_signed_walk P hU (by (first | exact nq31 hw1 | omega)) (by (first | exact nq36 hw2 | omega)) _ (by rw [Int.natAbs_natCast]; exact Nat.lt_of_le_of_lt (len_bits hW (show (part R 3).natAbs < 2 ^ 9 from Nat.lt_of_le_of_lt (det_le hR) (by decide))) (by decide)) 0) (by (first | exact nq97 | omega)) ?_
    walk_at "ws"
    refine op_neZ rfl ?_
    walk_at "ws"
    all_goals first | exact absurd trivial ‹¬True› | exact ⟨_, by walk_at "subs", rfl⟩
  rintro σ rfl
  with_reducible refine' WXs.mid (fun σ => σ = ([("told", LV.val (toldD R)), ("rows", LV.val (mat U R)), ("w", LV.val (.int (wd : Int)))] : St)) ?_ ?_
  · with_reducible refine' WX.ifs (WB.cmp ?sa ?_)
    case sa => with_unfolding_all rfl
    walk_at "ws"
    refine WE.comp ⟨by decide, by decide, by decide, by decide⟩ ?_
    walk_at "wi"
    walk_at "ws"
    rw [LR_len]
    refine ⟨[], _, by walk_at "subs", by walk_at "caps", CLoop.two (fun i σ xs => σ = ([] : St) ∧ xs = NN U (((List.range i).flatMap fun i => (List.range 3).map (R i)).map Int.natAbs)) ⟨rfl, rfl⟩ ?_, ?_⟩
    · rintro i σ xs hi ⟨rfl, rfl⟩
      rw [LR_get hi]
      walk_at "wi"
      walk_at "ws"
      rw [LR_len]
      refine ⟨fun j σ xs => σ = ([("row", LV.val (zrow U (R i)))] : St) ∧ xs = NN U (((List.range i).flatMap fun i => (List.range 3).map (R i)).map Int.natAbs) ++ NN U (((List.range j).map (R i)).map Int.natAbs), ⟨rfl, by simp [NN]⟩, ?_, ?_⟩
      · rintro j σ ys hj ⟨rfl, rfl⟩
        try dsimp only
        rw [LR_get hj]
        have hpl := pre_len R i
        refine ⟨by rw [sizeLine_is]; unfold NN; rw [List.length_append, List.length_map, List.length_map, List.length_map, List.length_map, List.length_map, hpl, List.length_range]; (first | exact nq732 hi hj | omega), ?_⟩
        walk_at "ws"
        exact ⟨_, by walk_at "subs", rfl, by simp [NN, List.range_succ]⟩
      · rintro σ ys ⟨rfl, rfl⟩
        exact ⟨_, by walk_at "subs", rfl, by simp [NN, List.range_succ]⟩
    · rintro σe xs ⟨rfl, rfl⟩
      refine ⟨[], by walk_at "subs", by walk_at "caps", ?_⟩
      have hlen : ∀ n ∈ (ents R).map Int.natAbs, (lim U n).length ≤ 2 ^ 22 - 1 := fun n hn => by
        obtain ⟨z, hz, rfl⟩ := List.mem_map.mp hn
        unfold ents at hz
        obtain ⟨i, hi, hz⟩ := List.mem_flatMap.mp hz
        obtain ⟨j, hj, rfl⟩ := List.mem_map.mp hz
        exact Nat.le_trans (l4 _ (hR i j (List.mem_range.mp hi) (List.mem_range.mp hj))) (by decide)
      have hgl := gcdL_len hW _ hlen
      rw [gcdL_gcdZ] at hgl
      walk_at "ws"
      refine OpAt.eq (gcd_of_walk P hU (by (first | exact nq31 hw1 | omega)) (by (first | exact nq36 hw2 | omega)) ((ents R).map Int.natAbs) hlen (by show 9 ≤ _; decide) 0) (by (first | exact nq733 | omega)) ?_
      walk_at "ws"
      refine OpAt.eq (limbs_walk P hU (by (first | exact nq31 hw1 | omega)) (by (first | exact nq36 hw2 | omega)) _ (by (first | exact nq119 hgl | omega)) 0) (by (first | exact nq254 | omega)) ?_
      rw [gcdL_gcdZ]
      walk_at "ws"
      all_goals first | exact absurd trivial ‹¬True› | exact ⟨_, by walk_at "subs", rfl⟩
  rintro σ rfl
  refine W.sub [("rows", LV.val (mat U R)), ("told", LV.val (toldD R)), ("w", LV.val (.int (wd : Int)))] (by walk_at "subs") ?_
  exact W.mono (law_loop P hU (by (first | exact nq31 hw1 | omega)) (by (first | exact nq36 hw2 | omega)) R 60000 (by decide) (by decide) hG k) hQ
end

end

section
open PySem.W in
theorem well_rep {Pm : Params} {h : Heap} : ∀ (is : List Int) {vs : List Value}, WellAll Pm h vs (ofPys (is.map PyData.int)) → RepL h.get? vs (IL is)
  | [], _, w => by cases w; exact .nil
  | i :: is, _, w => by
    cases w with
    | cons w1 w2 =>
      cases w1
      exact .cons (.int _ _) (well_rep is w2)
open PySem.W in
theorem well_arg {Pm : Params} {h : Heap} {is : List Int} {l : Addr} (w : Well Pm h (.ref l) (ofPy (PyData.list (is.map PyData.int)))) : Rep h.get? (.ref l) (.lst (IL is)) := by
  cases w with
  | list ho hw => exact .lst ho (well_rep is hw)

theorem finish {w : World} {s : Shared} {mg mb : Str → Option Value} {f l : Addr} {is : List Int}
    (hg : s.heap.Ns mainGlobals mg) (hb : s.heap.Ns builtinsNs mb) (hlim : s.heap.NoLimit)
    (hfn : ∀ i ∈ fnIds ++ [52], ∃ a o pm code doc, mg (fnName i) = some (.ref a) ∧ s.heap.get? a = some o ∧ o.data = .func (docDef (fnName i) (fnArgs i) (fnBody i) (fnScope i) pm code doc) ∧ s.heap.CodeRec code (fnName i))
    (hfa : mg (fnName 52) = some (.ref f)) (hbi : ∀ x : Str, x ≠ "__name__" → mb x = bootBuiltins x) (hno : ∀ x ∈ (["len", "min", "abs", "range", "enumerate", "zip", "int"] : List Str), mg x = none)
    (hN : mg "NOUGHT" = some (.ref 186)) (hU : mg "UNIT" = some (.ref 188))
    (h185 : s.heap.get? 185 = some (lobj [] 0)) (h186 : s.heap.get? 186 = some (tobj [.bool false, .ref 185] 0))
    (h187 : ∃ t, s.heap.get? 187 = some (lobj [.int 1 t] 0)) (h188 : s.heap.get? 188 = some (tobj [.bool false, .ref 187] 0))
    (hL : Rep s.heap.get? (.ref l) (.lst (IL is))) (hlen : is.length ≤ 63) (hgens : s.gens = #[]) :
    wpAny (model PR w) callerA (call (.ref f) [.ref l]) (fun v s' => v = .bool true ∧ (∀ b o, s.heap.get? b = some o → s'.heap.get? b = some o) ∧ s'.os = s.os ∧ s'.gens = #[]) (fun _ _ => False) s := by
  let fa : Nat → Addr := fun i => match mg (fnName i) with | some (.ref a) => a | _ => 0
  have F : ∀ i ∈ fnIds ++ [52], Fn s.heap i (fa i) ∧ TopVal s.heap (fnName i) (.fn (fa i)) := fun i hi => by
    obtain ⟨a, o, pm, code, doc, h1, h2, h3, h4⟩ := hfn i hi
    have e : fa i = a := by show (match mg (fnName i) with | some (.ref a) => a | _ => 0) = a; rw [h1]
    rw [e]
    exact ⟨⟨o, pm, code, doc, h2, h3, h4⟩, mg, mb, .ref a, hg, hb, .inl h1, .fn a⟩
  have bi : ∀ x ∈ (["len", "min", "abs", "range", "enumerate", "zip", "int"] : List Str), ∀ v d, x ≠ "__name__" → bootBuiltins x = some v → Rep s.heap.get? v d → TopVal s.heap x d := fun x hx v d hne hv hr =>
    ⟨mg, mb, v, hg, hb, .inr ⟨hno x hx, (hbi x hne).trans hv⟩, hr⟩
  obtain ⟨t1, h187⟩ := h187
  have P : Facts s.heap fa := {
    nolimit := hlim
    fn := fun i hi => F i (List.mem_append_left _ hi)
    len := bi "len" (by decide) (.builtin "len") _ (by decide) (by rfl) (.bi _)
    min := bi "min" (by decide) (.builtin "min") _ (by decide) (by rfl) (.bi _)
    abs := bi "abs" (by decide) (.builtin "abs") _ (by decide) (by rfl) (.bi _)
    range := bi "range" (by decide) (.type "range") _ (by decide) (by rfl) (.ty _)
    enumerate := bi "enumerate" (by decide) (.type "enumerate") _ (by decide) (by rfl) (.ty _)
    zip := bi "zip" (by decide) (.type "zip") _ (by decide) (by rfl) (.ty _)
    int := bi "int" (by decide) (.type "int") _ (by decide) (by rfl) (.ty _)
    nought := ⟨mg, mb, .ref 186, hg, hb, .inl hN, .tup h186 (.cons (.bool false) (.cons (.lst h185 .nil) .nil))⟩
    unit := ⟨mg, mb, .ref 188, hg, hb, .inl hU, .tup h188 (.cons (.bool false) (.cons (.lst h187 (.cons (.int 1 t1) .nil)) .nil))⟩ }
  have hf : Fn s.heap 52 f := by
    have := (F 52 (by decide)).1
    have e : fa 52 = f := by show (match mg (fnName 52) with | some (.ref a) => a | _ => 0) = f; rw [hfa]
    rwa [e] at this
  have L := law_walk (prog := PR) (w := w) (hT := s.heap) (os0 := s.os) P hf is hlen (fun M hM => good80 M hM) 0
  refine wpAny_mono (L callerA s s.heap.get? [.ref l] ⟨rfl, by decide +kernel, by decide +kernel⟩ ⟨Le.rfl, Le.rfl, hgens, rfl⟩ (.cons hL .nil)) (fun v s' ⟨d, z', G, hr, hd⟩ => ?_) fun _ _ x => x
  subst hd
  exact ⟨rep_bool hr, fun b o e => G.1 b o e, G.os, G.gens.trans hgens⟩

end

end Smith
open PySem.W
theorem Smith.recs_is : (recsOf Smith.view).map (fun d => (d.name, d.params, d.body, d.scope)) = (Smith.fnIds ++ [52]).map fun i => (Smith.fnName i, Smith.fnArgs i, Smith.fnBody i, Smith.fnScope i) := by kernel_rfl
theorem Smith.post_ok (args : List WData) : Challenge.rw_xm0433_01.row.claim.post args (.bool true) args = true := by
  refine postW_of (X := true) (r := Challenge.rw_xm0433_01.row.toRowW) (by kernel_rfl) ?_ rfl
  show WTm.value _ (.eq .res (.lit (.bool true))) _ = _
  first | rfl | kernel_rfl
set_option maxHeartbeats 8000000 in
theorem PySem.Challenge.cw_xm0433_01_holds : PySem.Challenge.rw_xm0433_01.Holds := by
  refine holds_law Smith.said fun said2 => ?_
  refine holds_open (q := Smith.view) (loose := Smith.loose) (XP := XL Smith.view []) (YP := Hook.says Smith.hk) Smith.left (Hook.of Smith.hk) (Hook.keeps Smith.hk) (fun s e => xl_of s (Bool.and_eq_true_iff.mp e).1) XL.keeps (by rfl) (by rfl) (by rfl) (fun s e => recFacts_of (Bool.and_eq_true_iff.mp e).2) (by rfl) said2 (by decide +kernel) ⟨rfl, rfl, rfl, rfl, rfl, by decide +kernel⟩ ?hw ?hc
  case hw => w_witness2
  intro w s₀ s₁ mg mb G Y fa o pm cd doc dV kV ho hd' hcd hD hmg hg args vals as hpre hlay hrd hwl hlo
  have KX := kIn_of Y
  refine Ground.open G ?_
  intro T B D TE TW
  wrow_args hpre hlay hrd hwl hlo
  have hfn : ∀ i ∈ Smith.fnIds ++ [52], ∃ a o pm code doc, mg (Smith.fnName i) = some (.ref a) ∧ s₁.heap.get? a = some o ∧ o.data = .func (Calls.docDef (Smith.fnName i) (Smith.fnArgs i) (Smith.fnBody i) (Smith.fnScope i) pm code doc) ∧ s₁.heap.CodeRec code (Smith.fnName i) := fun i hi => by
    have hm : (Smith.fnName i, Smith.fnArgs i, Smith.fnBody i, Smith.fnScope i) ∈ (recsOf Smith.view).map (fun d => (d.name, d.params, d.body, d.scope)) := Smith.recs_is ▸ List.mem_map_of_mem (f := fun i => (Smith.fnName i, Smith.fnArgs i, Smith.fnBody i, Smith.fnScope i)) hi
    obtain ⟨d, hd2, e⟩ := List.mem_map.mp hm
    obtain ⟨a, o, pm, code, doc, h1, h2, h3, h4⟩ := T.fn d hd2
    obtain ⟨e1, e2, e3, e4⟩ : d.name = Smith.fnName i ∧ d.params = Smith.fnArgs i ∧ d.body = Smith.fnBody i ∧ d.scope = Smith.fnScope i := by
      injection e with e1 e; injection e with e2 e; injection e with e3 e4; exact ⟨e1, e2, e3, e4⟩
    rw [e1] at h1 h4
    rw [e1, e2, e3, e4] at h3
    exact ⟨a, o, pm, code, doc, h1, h2, h3, h4⟩
  have hno : ∀ y ∈ (["len", "min", "abs", "range", "enumerate", "zip", "int"] : List Str), mg y = none := fun y hy => by
    simp only [List.mem_cons, List.not_mem_nil, or_false] at hy
    rcases hy with rfl | rfl | rfl | rfl | rfl | rfl | rfl <;> exact mg_none_of KX T.g (by kernel_rfl)
  refine wpAny_mono (Smith.finish T.g T.b T.nolimit hfn hmg T.builtins hno (mg_of KX T.g (by kernel_rfl)) (mg_of KX T.g (by kernel_rfl)) (KX 185 _ (by kernel_rfl)) (KX 186 _ (by kernel_rfl)) ⟨452, KX 187 _ (by kernel_rfl)⟩ (KX 188 _ (by kernel_rfl)) (Smith.well_arg ‹_›) (by omega) hg) (fun v s' ⟨e, k, o, g⟩ => ?_) fun _ _ x => x.elim
  subst e
  exact GoodW.toG ⟨.inl ⟨_, .bool true, [], rfl, fun _ => rfl, .bool true, Smith.post_ok _, fun _ => ⟨List.nodup_nil, fun _ h => nomatch h⟩⟩, k, o, g⟩

