import PyProof.Rows.All
import PyProof.ExcBaseAll.Exception
import Wide.All
import OpenK.AllK
import Wide.FinOn
import Lean
import PySem.Challenge.RW_on0237_01
set_option Elab.async false
set_option genSizeOfSpec false

section
set_option maxRecDepth 100000
set_option linter.unusedVariables false
namespace Mine
/-! OB -/
theorem ob0 {v0 : Nat} {v1 : Nat} (h0 : (v0 < (v1 + (1 : Nat)))) (h1 : (¬ (v0 < v1))) : (v0 = v1) := by grind
theorem ob1 {v0 : Nat} {v1 : Nat} {v2 : Nat} (h0 : ((v0 + (2 : Nat)) < v1)) (h1 : (v2 ≤ (2 : Nat))) : ((v0 + v2) < v1) := by refine Nat.lt_of_le_of_lt ?_ h0; exact Nat.add_le_add_left h1 _
theorem ob2 {v0 : Nat} {v1 : Nat} (h0 : ((v0 + ((4 : Nat) * (v1 + (1 : Nat)))) < (900 : Nat))) : (((v0 + (1 : Nat)) + ((4 : Nat) * v1)) < (900 : Nat)) := by grind
theorem ob3 {v0 : Nat} {v1 : Nat} (h0 : ((v0 + ((200 : Nat) * (v1 + (1 : Nat)))) < (9000 : Nat))) : (((v0 + (3 : Nat)) + ((200 : Nat) * v1)) < (9000 : Nat)) := by grind
theorem ob4 {v0 : Nat} {v1 : Nat} {v2 : Nat} (h0 : (v0 ≤ v1)) (h1 : ((v2 + ((4 : Nat) * v1)) < (900 : Nat))) : ((v2 + ((4 : Nat) * v0)) < (900 : Nat)) := by grind
theorem ob5 {v0 : Nat} {v1 : Nat} {v2 : Nat} (h0 : (v0 ≤ v1)) (h1 : ((v2 + ((200 : Nat) * v1)) < (9000 : Nat))) : ((v2 + ((200 : Nat) * v0)) < (9000 : Nat)) := by grind
theorem ob6 {v0 : Nat} {v1 : Nat} (h0 : ((v0 + ((4 : Nat) * v1)) < (900 : Nat))) : (v0 < (1000 : Nat)) := by grind
theorem ob7 {v0 : Nat} {v1 : Nat} (h0 : ((v0 + ((200 : Nat) * v1)) < (9000 : Nat))) : ((v0 + (800 : Nat)) < (9900 : Nat)) := by grind
theorem ob8 {v0 : Int} (h0 : (v0 = (0 : Int))) (h1 : ((0 : Int) < v0)) : False := by grind
theorem ob9 {v0 : Int} (h0 : (v0 < (1073741824 : Int))) (h1 : ((0 : Int) < v0)) : ((Int.natAbs v0) < (1073741824 : Nat)) := by grind
theorem ob10 {v0 : Int} {v1 : Nat} (h0 : ((Int.toNat v0) < v1)) (h1 : (v1 < ((2 : Nat) ^ (60 : Nat)))) : (v0 < ((2 : Int) ^ (63 : Nat))) := by grind
theorem ob11 {v0 : Nat} {v1 : Int} (h0 : ((-((v0 : Nat) : Int)) ≤ v1)) (h1 : (v0 < ((2 : Nat) ^ (60 : Nat)))) : ((-((2 : Int) ^ (63 : Nat))) ≤ v1) := by grind
theorem ob12 {v0 : Int} (h0 : ((0 : Int) ≤ v0)) : ((-((2 : Int) ^ (63 : Nat))) ≤ v0) := by exact Int.le_trans (by decide) h0
theorem ob13 {v0 : Int} (h0 : ((0 : Int) ≤ v0)) : (¬ (v0 < (0 : Int))) := by grind
theorem ob14 {v0 : Int} {v1 : Nat} (h0 : ((0 : Int) ≤ v0)) (h1 : ((Int.toNat v0) < v1)) : (((0 : Int) ≤ v0) ∧ (v0 < ((v1 : Nat) : Int))) := by omega
theorem ob15 {v0 : Int} (h0 : (¬ ((0 : Int) ≤ v0))) : (v0 < ((2 : Int) ^ (63 : Nat))) := by grind
theorem ob16 {v0 : Nat} {v1 : Int} (h0 : ((-((v0 : Nat) : Int)) ≤ v1)) (h1 : (¬ ((0 : Int) ≤ v1))) : (((0 : Int) ≤ (v1 + ((v0 : Nat) : Int))) ∧ ((v1 + ((v0 : Nat) : Int)) < ((v0 : Nat) : Int))) := by grind
theorem ob17 {v0 : Int} {v1 : Nat} (h0 : ((Int.toNat v0) < v1)) : (v0 < ((v1 : Nat) : Int)) := by grind
theorem ob18 {v0 : Nat} {p1 : Prop} (h0 : ((v0 < ((2 : Nat) ^ (40 : Nat))) ∧ p1)) : (((v0 : Nat) : Int) < ((2 : Int) ^ (63 : Nat))) := by have h := h0.1; exact Int.ofNat_lt.mpr (Nat.lt_of_lt_of_le h (Nat.le_of_ble_eq_true rfl))
theorem ob19 {v0 : Nat} (h0 : (v0 < ((2 : Nat) ^ (40 : Nat)))) : (((v0 : Nat) : Int) < ((2 : Int) ^ (63 : Nat))) := by refine Int.ofNat_lt.mpr ?_; exact Nat.lt_of_lt_of_le h0 (Nat.le_add_left _ _)
theorem ob20 {v0 : Int} {v1 : Nat} (h0 : (v0 < ((v1 : Nat) : Int))) (h1 : (v1 < ((2 : Nat) ^ (60 : Nat)))) : (v0 < ((2 : Int) ^ (63 : Nat))) := by omega
theorem ob21 {v0 : Nat} {v1 : Nat} (h0 : (((0 : Nat) + v0) = v1)) : (v0 = v1) := by grind
theorem ob22 {v0 : Nat} {v1 : Nat} {v2 : Nat} (h0 : (((v0 + (1 : Nat)) + v1) = v2)) : (v1 < v2) := by grind
theorem ob23 {v0 : Nat} {v1 : Nat} {v2 : Nat} (h0 : (((v0 + (1 : Nat)) + v1) = v2)) : ((v0 + (v1 + (1 : Nat))) = v2) := by grind
theorem ob24 {v0 : Nat} {v1 : Nat} (h0 : (v0 < v1)) : ((0 : Int) < (((v1 : Nat) : Int) - ((v0 : Nat) : Int))) := by grind
theorem ob25 {v0 : Nat} {v1 : Nat} : ((((v0 : Nat) : Int) - (((v1 : Nat) : Int) + (1 : Int))) = ((((v0 : Nat) : Int) - ((v1 : Nat) : Int)) - (1 : Int))) := by grind
theorem ob26 {v0 : Nat} : ((((v0 : Nat) : Int) - ((v0 : Nat) : Int)) ≤ (0 : Int)) := by simp
theorem ob27 {v0 : Int} (h0 : (v0 < (256 : Int))) (h1 : ((0 : Int) ≤ v0)) : ((¬ (v0 < (0 : Int))) ∧ (¬ (v0 ≥ (256 : Int)))) := by grind
theorem ob28 {v0 : Int} (h0 : (v0 < (256 : Int))) : ((Int.toNat v0) < (256 : Nat)) := by omega
theorem ob29 {v0 : Nat} {v1 : Nat} {v2 : Nat} (h0 : ((v0 + (v1 + (1 : Nat))) < v2)) : (v0 < v2) := by refine Nat.lt_of_le_of_lt ?_ h0; exact Nat.le_add_right _ _
theorem ob30 {v0 : Nat} {v1 : Nat} {v2 : Nat} (h0 : ((v0 + (v1 + (1 : Nat))) < v2)) : (((v0 + (1 : Nat)) + v1) < v2) := by grind
theorem ob31 {v0 : Nat} {v1 : Nat} (h0 : ((v0 + (800 : Nat)) < v1)) : (v0 < v1) := by refine Nat.lt_of_le_of_lt ?_ h0; exact Nat.le_add_right _ _
theorem ob32 {v0 : Nat} {v1 : Nat} {v2 : Nat} (h0 : (v0 ≤ (100 : Nat))) (h1 : ((v1 + (800 : Nat)) < v2)) : (((v1 + (1 : Nat)) + v0) < v2) := by grind
theorem ob33 {v0 : Nat} {v1 : Nat} (h0 : ((v0 + ((4 : Nat) * (v1 + (1 : Nat)))) < (900 : Nat))) : ((v0 + (2 : Nat)) < (1000 : Nat)) := by grind
theorem ob34 {v0 : Int} (h0 : ((0 : Int) ≤ v0)) : ((-((2 : Int) ^ (62 : Nat))) ≤ v0) := by exact Int.le_trans (by decide) h0
theorem ob35 {v0 : Int} (h0 : (v0 < ((2 : Int) ^ (40 : Nat)))) : (v0 < ((2 : Int) ^ (62 : Nat))) := by exact Int.lt_of_lt_of_le h0 (by decide)
theorem ob36 {v0 : Nat} {v1 : Nat} (h0 : ((0 : Nat) < v0)) : ((v1 + v0) ≠ v1) := by grind
theorem ob37 {v0 : Int} (h0 : (v0 ≤ (16777216 : Int))) (h1 : ((0 : Int) ≤ v0)) : (((-((2 : Int) ^ (63 : Nat))) ≤ v0) ∧ (v0 < ((2 : Int) ^ (63 : Nat)))) := by grind
theorem ob38 {v0 : Int} (h0 : (v0 ≤ (16777216 : Int))) : (¬ (v0 > (((2 : Int) ^ (63 : Nat)) - (34 : Int)))) := by omega
theorem ob39 {v0 : Int} (h0 : (v0 ≤ (16777216 : Int))) : ((Int.toNat v0) ≤ (16777216 : Nat)) := by grind
theorem ob40 {v0 : Nat} {v1 : Nat} : ((v0 + (v1 + (1 : Nat))) = ((v0 + (1 : Nat)) + v1)) := by grind
theorem ob41 {v0 : Nat} (h0 : (v0 ≤ (16777216 : Nat))) : (¬ (v0 > (16777216 : Nat))) := by exact Nat.not_lt.mpr h0
theorem ob42 {v0 : Int} (h0 : (((0 : Int) ≤ v0) ∧ (v0 < (256 : Int)))) : ((Int.toNat v0) < (256 : Nat)) := by grind
theorem ob43 {v0 : Int} (h0 : (((0 : Int) ≤ v0) ∧ (v0 < (256 : Int)))) : (v0 < (256 : Int)) := by have h := h0.2; exact h
theorem ob44 {v0 : Int} (h0 : (((0 : Int) ≤ v0) ∧ (v0 < (256 : Int)))) : ((((Int.toNat v0) : Nat) : Int) = v0) := by grind
theorem ob45 {v0 : Int} {v1 : Nat} (h0 : ((0 : Int) ≤ v0)) (h1 : ((Int.toNat v0) < v1)) (h2 : (v1 ≤ (16777216 : Nat))) : (((-((2 : Int) ^ (63 : Nat))) ≤ v0) ∧ (v0 < ((2 : Int) ^ (63 : Nat)))) := by grind
theorem ob46 {v0 : Nat} {v1 : Nat} {v2 : Nat} : (((v0 + v1) + v2) = (v0 + (v1 + v2))) := by exact Nat.add_assoc _ _ _
theorem ob47 {v0 : Nat} (h0 : (¬ (v0 = (0 : Nat)))) : ((v0 / (2 : Nat)) < v0) := by grind
theorem ob48 {v0 : Nat} {v1 : Nat} {v2 : Nat} (h0 : (((v0 / (2 : Nat)) + (v1 / (2 : Nat))) = (v2 / (2 : Nat)))) (h1 : (((v0 % (2 : Nat)) + (v1 % (2 : Nat))) = (v2 % (2 : Nat)))) : ((v0 + v1) = v2) := by grind
theorem ob49 {v0 : Nat} {v1 : Nat} {v2 : Nat} {v3 : Nat} (h0 : ((v0 + v1) = (v2 + v3))) : (((((v2 : Nat) : Int) + ((v3 : Nat) : Int)) - ((v1 : Nat) : Int)) = ((v0 : Nat) : Int)) := by grind
theorem ob50 {v0 : Nat} {v1 : Nat} {v2 : Nat} (h0 : ((v0 + v1) = v2)) : ((((v2 : Nat) : Int) - ((v1 : Nat) : Int)) = ((v0 : Nat) : Int)) := by grind
theorem ob51 {v0 : Nat} (h0 : (v0 < ((2 : Nat) ^ (32 : Nat)))) : ((v0 / (2 : Nat)) < ((2 : Nat) ^ (32 : Nat))) := by refine Nat.lt_of_le_of_lt ?_ h0; exact Nat.div_le_self _ _
theorem ob52 {v0 : Nat} (h0 : (v0 < (256 : Nat))) : (v0 < ((2 : Nat) ^ (32 : Nat))) := by exact Nat.lt_of_lt_of_le h0 (Nat.le_add_left _ _)
theorem ob53 {v0 : Nat} {v1 : Nat} {v2 : Nat} (h0 : (((v0 % (2 : Nat)) = (1 : Nat)) ↔ (¬ (((v1 % (2 : Nat)) = (1 : Nat)) ↔ ((v2 % (2 : Nat)) = (1 : Nat)))))) (h1 : ((v1 % (2 : Nat)) = (0 : Nat))) (h2 : ((v2 % (2 : Nat)) = (0 : Nat))) : (¬ ((v0 % (2 : Nat)) = (1 : Nat))) := by grind
theorem ob54 {v0 : Nat} (h0 : ((v0 % (2 : Nat)) = (0 : Nat))) : (¬ ((v0 % (2 : Nat)) = (1 : Nat))) := by rw [h0]; decide
theorem ob55 {v0 : Nat} {v1 : Nat} {v2 : Nat} (h0 : (((v0 % (2 : Nat)) = (1 : Nat)) ↔ (¬ (((v1 % (2 : Nat)) = (1 : Nat)) ↔ ((v2 % (2 : Nat)) = (1 : Nat)))))) (h1 : ((v1 % (2 : Nat)) = (0 : Nat))) (h2 : ((v2 % (2 : Nat)) = (1 : Nat))) : ((v0 % (2 : Nat)) = (1 : Nat)) := by grind
theorem ob56 {v0 : Nat} {v1 : Nat} {v2 : Nat} (h0 : (((v0 % (2 : Nat)) = (1 : Nat)) ↔ (¬ (((v1 % (2 : Nat)) = (1 : Nat)) ↔ ((v2 % (2 : Nat)) = (1 : Nat)))))) (h1 : ((v2 % (2 : Nat)) = (0 : Nat))) (h2 : ((v1 % (2 : Nat)) = (1 : Nat))) : ((v0 % (2 : Nat)) = (1 : Nat)) := by grind
theorem ob57 {v0 : Nat} {v1 : Nat} {v2 : Nat} (h0 : (((v0 % (2 : Nat)) = (1 : Nat)) ↔ (¬ (((v1 % (2 : Nat)) = (1 : Nat)) ↔ ((v2 % (2 : Nat)) = (1 : Nat)))))) (h1 : ((v2 % (2 : Nat)) = (1 : Nat))) (h2 : ((v1 % (2 : Nat)) = (1 : Nat))) : (¬ ((v0 % (2 : Nat)) = (1 : Nat))) := by grind
theorem ob58 {v0 : Nat} : (¬ ((((2 : Nat) * v0) % (2 : Nat)) = (1 : Nat))) := by simp
theorem ob59 {v0 : Nat} : ((((2 : Nat) * v0) / (2 : Nat)) = v0) := by simp
theorem ob60 {v0 : Nat} : ((v0 % (16 : Nat)) < ((2 : Nat) ^ (4 : Nat))) := by exact Nat.mod_lt _ (by decide)
theorem ob61 {v0 : Nat} {v1 : Nat} {v2 : Nat} (h0 : ((((16 : Nat) * (v0 / (16 : Nat))) + (v0 % (16 : Nat))) = v1)) (h1 : ((v1 + v2) = (((16 : Nat) * (v0 / (16 : Nat))) + (v0 % (16 : Nat))))) : (v2 = (0 : Nat)) := by grind
theorem ob62 {v0 : Nat} {v1 : Nat} {v2 : Nat} {v3 : Nat} (h0 : (v0 = (0 : Nat))) (h1 : ((v1 + v0) = ((v2 % (16 : Nat)) + ((16 : Nat) * (v2 / (16 : Nat)))))) (h2 : ((v3 + v0) = v1)) : (v2 = v3) := by grind
theorem ob63 {v0 : Nat} : (((16 : Nat) * (v0 / (16 : Nat))) = ((2 : Nat) * ((2 : Nat) * ((2 : Nat) * ((2 : Nat) * (v0 / (16 : Nat))))))) := by grind
theorem ob64 {v0 : Nat} {v1 : Nat} {v2 : Nat} {v3 : Nat} (h0 : (((v0 % (2 : Nat)) = (1 : Nat)) ↔ (¬ (((v1 % (2 : Nat)) = (1 : Nat)) ↔ (((v2 / ((2 : Nat) ^ v3)) % (2 : Nat)) = (1 : Nat)))))) (h1 : (((v1 + (v2 / ((2 : Nat) ^ v3))) % (2 : Nat)) = (1 : Nat))) : ((v0 % (2 : Nat)) = (1 : Nat)) := by grind
theorem ob65 {v0 : Nat} {v1 : Nat} {v2 : Nat} {v3 : Nat} (h0 : (¬ (((v0 + (v1 / ((2 : Nat) ^ v2))) % (2 : Nat)) = (1 : Nat)))) (h1 : (((v3 % (2 : Nat)) = (1 : Nat)) ↔ (¬ (((v0 % (2 : Nat)) = (1 : Nat)) ↔ (((v1 / ((2 : Nat) ^ v2)) % (2 : Nat)) = (1 : Nat)))))) : (¬ ((v3 % (2 : Nat)) = (1 : Nat))) := by grind
theorem ob66 {v0 : Nat} (h0 : (v0 < ((2 : Nat) ^ (32 : Nat)))) : ((v0 / (2 : Nat)) < ((2 : Nat) ^ (31 : Nat))) := by refine Nat.div_lt_of_lt_mul ?_; exact h0
theorem ob67 {v0 : Nat} {v1 : Nat} (h0 : ((v0 / (2 : Nat)) = (v1 / (2 : Nat)))) (h1 : ((v1 % (2 : Nat)) = (1 : Nat))) (h2 : ((v0 % (2 : Nat)) = (1 : Nat))) : (v0 = v1) := by grind
theorem ob68 {v0 : Nat} {v1 : Nat} (h0 : (¬ ((v0 % (2 : Nat)) = (1 : Nat)))) (h1 : ((v1 / (2 : Nat)) = (v0 / (2 : Nat)))) (h2 : (¬ ((v1 % (2 : Nat)) = (1 : Nat)))) : (v1 = v0) := by grind
theorem ob69 {v0 : Int} (h0 : (v0 ≤ (300 : Int))) : (v0 < (1073741824 : Int)) := by exact Int.lt_of_le_of_lt h0 (by decide)
theorem ob70 {v0 : Int} (h0 : ((0 : Int) < v0)) : (v0 ≠ (0 : Int)) := by omega
theorem ob71 {v0 : Int} (h0 : (v0 < (2147483648 : Int))) (h1 : ((0 : Int) ≤ v0)) : ((Int.natAbs v0) < ((2 : Nat) ^ (64 : Nat))) := by grind
theorem ob72 {v0 : Int} : ((Int.natAbs (((v0 * (39373 : Int)) + (7 : Int)) % (2147483647 : Int))) < ((2 : Nat) ^ (64 : Nat))) := by grind
theorem ob73 {v0 : Int} : ((((v0 * (39373 : Int)) + (7 : Int)) % (2147483647 : Int)) < (2147483648 : Int)) := by grind
theorem ob74 {v0 : Nat} : (¬ (((v0 : Nat) : Int) < (0 : Int))) := by simp
theorem ob75 {v0 : Nat} {v1 : Nat} : ((Int.toNat (max (0 : Int) (min ((v0 : Nat) : Int) ((v1 : Nat) : Int)))) = (min v0 v1)) := by grind
theorem ob76 {v0 : Nat} {v1 : Nat} (h0 : (¬ (v0 ≤ v1))) : (v1 ≤ v0) := by grind
theorem ob77 {v0 : Nat} {v1 : Nat} {v2 : Nat} (h0 : (¬ (v0 ≤ v1))) : (v1 ≤ ((v0 - v2) + v2)) := by refine Nat.le_of_lt ?_; omega
theorem ob78 {v0 : Nat} (h0 : (v0 < (256 : Nat))) : ((v0 * ((2 : Nat) ^ (16 : Nat))) < ((2 : Nat) ^ (24 : Nat))) := by grind
theorem ob79 {v0 : Nat} {v1 : Nat} : (((((2 : Nat) ^ (24 : Nat)) * v0) + (v1 * ((2 : Nat) ^ (16 : Nat)))) = (((2 : Nat) ^ (16 : Nat)) * ((v0 * (256 : Nat)) + v1))) := by grind
theorem ob80 {v0 : Nat} (h0 : (v0 < (256 : Nat))) : ((v0 * ((2 : Nat) ^ (8 : Nat))) < ((2 : Nat) ^ (16 : Nat))) := by grind
theorem ob81 {v0 : Nat} {v1 : Nat} {v2 : Nat} : (((((2 : Nat) ^ (16 : Nat)) * ((v0 * (256 : Nat)) + v1)) + (v2 * ((2 : Nat) ^ (8 : Nat)))) = (((2 : Nat) ^ (8 : Nat)) * ((((v0 * (256 : Nat)) + v1) * (256 : Nat)) + v2))) := by grind
theorem ob82 {v0 : Nat} {v1 : Nat} {v2 : Nat} {v3 : Nat} : (((((2 : Nat) ^ (8 : Nat)) * ((((v0 * (256 : Nat)) + v1) * (256 : Nat)) + v2)) + v3) = ((((v0 * (16777216 : Nat)) + (v1 * (65536 : Nat))) + (v2 * (256 : Nat))) + v3)) := by grind
theorem ob83 {v0 : Int} {v1 : Nat} (h0 : (v0 < (0 : Int))) : (¬ (((0 : Int) ≤ v0) ∧ ((v0 + (4 : Int)) ≤ ((v1 : Nat) : Int)))) := by omega
theorem ob84 {v0 : Nat} {v1 : Nat} (h0 : (v0 = v1)) (h1 : (v1 ≤ (16777216 : Nat))) : (v0 < ((2 : Nat) ^ (40 : Nat))) := by refine Nat.lt_succ_of_le ?_; exact Nat.le_trans (Nat.le_of_eq h0) (Nat.le_trans h1 (Nat.le_of_ble_eq_true rfl))
theorem ob85 {v0 : Nat} {v1 : Nat} {v2 : Int} (h0 : (v0 = v1)) (h1 : (((v0 : Nat) : Int) < (v2 + (4 : Int)))) : (¬ (((0 : Int) ≤ v2) ∧ ((v2 + (4 : Int)) ≤ ((v1 : Nat) : Int)))) := by subst h0; omega
theorem ob86 {v0 : Nat} {v1 : Nat} {v2 : Nat} (h0 : (v0 = v1)) (h1 : ((((v2 : Nat) : Int) + (4 : Int)) ≤ ((v0 : Nat) : Int))) : ((Int.toNat ((v2 : Nat) : Int)) < v1) := by omega
theorem ob87 {v0 : Nat} {v1 : Nat} (h0 : (v0 = v1)) (h1 : (v1 ≤ (16777216 : Nat))) : (v0 ≤ (1099511627776 : Nat)) := by exact Nat.le_trans (Nat.le_of_eq h0) (Nat.le_trans h1 (Nat.le_of_ble_eq_true rfl))
theorem ob88 {v0 : Nat} (h0 : (v0 < (256 : Nat))) : ((Int.natAbs ((v0 : Nat) : Int)) < ((2 : Nat) ^ (64 : Nat))) := by exact Nat.lt_of_lt_of_le h0 (Nat.le_add_left _ _)
theorem ob89 {v0 : Nat} {v1 : Nat} {v2 : Nat} (h0 : (v0 = v1)) (h1 : ((((v2 : Nat) : Int) + (4 : Int)) ≤ ((v0 : Nat) : Int))) : ((Int.toNat (((v2 : Nat) : Int) + (1 : Int))) < v1) := by grind
theorem ob90 {v0 : Nat} {v1 : Nat} {v2 : Nat} (h0 : (v0 = v1)) (h1 : ((((v2 : Nat) : Int) + (4 : Int)) ≤ ((v0 : Nat) : Int))) : ((Int.toNat (((v2 : Nat) : Int) + (2 : Int))) < v1) := by grind
theorem ob91 {v0 : Nat} {v1 : Nat} {v2 : Nat} (h0 : (v0 = v1)) (h1 : ((((v2 : Nat) : Int) + (4 : Int)) ≤ ((v0 : Nat) : Int))) : ((Int.toNat (((v2 : Nat) : Int) + (3 : Int))) < v1) := by subst h0; exact Int.ofNat_lt.mp h1
theorem ob92 {v0 : Nat} {v1 : Nat} {v2 : Nat} (h0 : (v0 = v1)) (h1 : ((((v2 : Nat) : Int) + (4 : Int)) ≤ ((v0 : Nat) : Int))) : ((((v2 : Nat) : Int) + (4 : Int)) ≤ ((v1 : Nat) : Int)) := by exact h0 ▸ h1
theorem ob93 {v0 : Nat} {v1 : Nat} (h0 : ((v0 - v1) = (0 : Nat))) (h1 : (v1 ≤ v0)) : (v1 = v0) := by grind
theorem ob94 {v0 : Nat} {v1 : Nat} {v2 : Nat} (h0 : ((v0 - v1) = (v2 + (1 : Nat)))) : (v1 < v0) := by omega
theorem ob95 {v0 : Nat} (h0 : ((((v0 % (2 : Nat)) : Nat) : Int) ≠ (0 : Int))) : ((v0 % (2 : Nat)) = (1 : Nat)) := by grind
theorem ob96 {v0 : Nat} (h0 : ((((v0 % (2 : Nat)) : Nat) : Int) = (0 : Int))) : (¬ ((v0 % (2 : Nat)) = (1 : Nat))) := by grind
theorem ob97 {v0 : Nat} : ((v0 % (16 : Nat)) < (16 : Nat)) := by exact Nat.mod_lt _ (by decide)
theorem ob98 {v0 : Nat} {v1 : Nat} (h0 : ((v0 < (65521 : Nat)) ∧ (v1 < (65521 : Nat)))) : ((Int.natAbs ((v1 : Nat) : Int)) < ((2 : Nat) ^ (64 : Nat))) := by omega
theorem ob99 {v0 : Nat} {v1 : Nat} (h0 : ((v0 < (65521 : Nat)) ∧ (v1 < (65521 : Nat)))) : (v0 < ((2 : Nat) ^ (16 : Nat))) := by have h := h0.1; exact Nat.lt_of_lt_of_le h (Nat.le_add_left _ _)
theorem ob100 {v0 : Nat} {v1 : Nat} : (((((((2 : Nat) ^ (8 : Nat)) * v0) + v1) : Nat) : Int) = (((v1 + ((256 : Nat) * v0)) : Nat) : Int)) := by grind
theorem ob101 {v0 : Nat} {v1 : Nat} {v2 : Nat} {v3 : Nat} (h0 : (v0 = v1)) (h1 : (((7 : Nat) + (v2 + ((256 : Nat) * v3))) ≤ v1)) : ((7 : Int) ≤ ((v0 : Nat) : Int)) := by grind
theorem ob102 {v0 : Nat} {v1 : Nat} {v2 : Nat} (h0 : (((7 : Nat) + (v0 + ((256 : Nat) * v1))) ≤ v2)) : ((2 : Nat) < v2) := by grind
theorem ob103 {v0 : Nat} {v1 : Nat} {v2 : Nat} (h0 : (((7 : Nat) + (v0 + ((256 : Nat) * v1))) ≤ v2)) : ((3 : Nat) < v2) := by grind
theorem ob104 {v0 : Nat} {v1 : Nat} {v2 : Nat} (h0 : (((7 : Nat) + (v0 + ((256 : Nat) * v1))) ≤ v2)) : ((4 : Nat) < v2) := by grind
theorem ob105 {v0 : Nat} {v1 : Nat} {v2 : Nat} (h0 : (((7 : Nat) + (v0 + ((256 : Nat) * v1))) ≤ v2)) : ((5 : Nat) < v2) := by grind
theorem ob106 {v0 : Nat} {v1 : Nat} {v2 : Nat} (h0 : (((7 : Nat) + (v0 + ((256 : Nat) * v1))) ≤ v2)) : ((6 : Nat) < v2) := by grind
theorem ob107 {v0 : Nat} : ((Int.natAbs ((((255 : Nat) - v0) : Nat) : Int)) < ((2 : Nat) ^ (64 : Nat))) := by refine Nat.lt_of_le_of_lt (Nat.sub_le _ _) ?_; exact Nat.le_add_left _ _
theorem ob108 {v0 : Nat} : (((255 : Nat) - v0) < (256 : Nat)) := by refine Nat.lt_succ_of_le ?_; exact Nat.sub_le _ _
theorem ob109 {v0 : Nat} {v1 : Nat} (h0 : (¬ ((((((255 : Nat) - v0) : Nat) : Int) + ((256 : Int) * ((((255 : Nat) - v1) : Nat) : Int))) = ((65535 : Int) - (((v0 : Nat) : Int) + ((256 : Int) * ((v1 : Nat) : Int))))))) (h1 : (v0 < (256 : Nat))) (h2 : (v1 < (256 : Nat))) : False := by grind
theorem ob110 {v0 : Nat} {v1 : Nat} {v2 : Nat} {v3 : Nat} (h0 : (((v0 : Nat) : Int) < ((7 : Int) + (((v1 : Nat) : Int) + ((256 : Int) * ((v2 : Nat) : Int)))))) (h1 : (v0 = v3)) (h2 : (((7 : Nat) + (v1 + ((256 : Nat) * v2))) ≤ v3)) : False := by grind
theorem ob111 {v0 : Nat} {v1 : Nat} {v2 : Nat} (h0 : ((v0 + v1) ≤ (16777216 : Nat))) : ((v0 + (min v2 v1)) ≤ (16777216 : Nat)) := by grind
theorem ob112 {v0 : Nat} {v1 : Nat} (h0 : ((v0 + (v1 + (1 : Nat))) ≤ (16777216 : Nat))) : (v0 ≤ (16777216 : Nat)) := by grind
theorem ob113 {v0 : Nat} {v1 : Nat} (h0 : ((v0 + (v1 + (1 : Nat))) ≤ (16777216 : Nat))) : (((v0 + (1 : Nat)) + v1) ≤ (16777216 : Nat)) := by grind
theorem ob114 {v0 : Nat} {v1 : Nat} {v2 : Nat} (h0 : ((v0 + (v1 + v2)) ≤ (16777216 : Nat))) : ((v0 + v1) ≤ (16777216 : Nat)) := by grind
theorem ob115 {v0 : Nat} {v1 : Nat} {v2 : Nat} (h0 : ((v0 + (v1 + v2)) ≤ (16777216 : Nat))) : (((v0 + v1) + v2) ≤ (16777216 : Nat)) := by rw [Nat.add_assoc]; exact h0
theorem ob116 {v0 : Nat} {v1 : Nat} (h0 : (((12 : Nat) + v0) ≤ v1)) : (¬ ((v1 < (4 : Nat)) ∨ (v1 < ((12 : Nat) + v0)))) := by omega
theorem ob117 {v0 : Nat} {v1 : Nat} (h0 : (¬ ((v0 < (4 : Nat)) ∨ (v0 < ((12 : Nat) + v1))))) : ((4 : Nat) ≤ v0) := by show (_ : Nat) < _; omega
theorem ob118 {v0 : Nat} {v1 : Nat} (h0 : (¬ ((v0 < (4 : Nat)) ∨ (v0 < ((12 : Nat) + v1))))) : (((12 : Nat) + v1) ≤ v0) := by omega
theorem ob119 {v0 : Nat} {v1 : Nat} (h0 : (v0 = v1)) (h1 : (v1 ≤ (1000000 : Nat))) : (v0 ≤ (16777216 : Nat)) := by exact Nat.le_trans (Nat.le_of_eq h0) (Nat.le_trans h1 (Nat.le_of_ble_eq_true rfl))
theorem ob120 {v0 : Nat} (h0 : ((min (8 : Nat) v0) = (8 : Nat))) : ((8 : Nat) ≤ v0) := by rw [← h0]; exact Nat.min_le_right _ _
theorem ob121 {v0 : Nat} {v1 : Nat} (h0 : (v0 = v1)) (h1 : (v1 ≤ (1000000 : Nat))) : (v0 < ((2 : Nat) ^ (40 : Nat))) := by refine Nat.lt_succ_of_le ?_; exact Nat.le_trans (Nat.le_of_eq h0) (Nat.le_trans h1 (Nat.le_of_ble_eq_true rfl))
theorem ob122 {v0 : Nat} {v1 : Nat} {v2 : Nat} (h0 : ((v0 - v1) = (0 : Nat))) (h1 : (v2 = v0)) (h2 : (((v1 : Nat) : Int) < ((v2 : Nat) : Int))) : False := by omega
theorem ob123 {v0 : Nat} {v1 : Nat} {v2 : Nat} (h0 : (v0 = (v1 - v2))) (h1 : ((4 : Nat) ≤ v0)) : (((0 : Int) ≤ ((v2 : Nat) : Int)) ∧ ((((v2 : Nat) : Int) + (4 : Int)) ≤ ((v1 : Nat) : Int))) := by grind
theorem ob124 {v0 : Nat} {v1 : Nat} {v2 : Nat} {v3 : Nat} (h0 : (v0 = (v1 - v2))) (h1 : (((((v2 : Nat) : Int) + (12 : Int)) + ((v3 : Nat) : Int)) > ((v1 : Nat) : Int))) : (v0 < ((12 : Nat) + v3)) := by omega
theorem ob125 {v0 : Nat} {v1 : Nat} {v2 : Nat} (h0 : (¬ (((((v0 : Nat) : Int) + (12 : Int)) + ((v1 : Nat) : Int)) > ((v2 : Nat) : Int)))) : (((v0 + (12 : Nat)) + v1) ≤ v2) := by have h := Int.not_lt.mp h0; exact Int.ofNat_le.mp h
theorem ob126 {v0 : Nat} {v1 : Nat} : ((((v0 + (8 : Nat)) + v1) - (v0 + (4 : Nat))) = ((4 : Nat) + v1)) := by grind
theorem ob127 {v0 : Nat} {v1 : Nat} {v2 : Nat} {v3 : Nat} (h0 : (v0 = v1)) (h1 : (¬ (((((v2 : Nat) : Int) + (12 : Int)) + ((v3 : Nat) : Int)) > ((v0 : Nat) : Int)))) : ((min ((4 : Nat) + v3) (v1 - (v2 + (4 : Nat)))) = ((4 : Nat) + v3)) := by refine Nat.min_eq_left ?_; omega
theorem ob128 {v0 : Nat} {v1 : Nat} {v2 : Nat} {v3 : Nat} (h0 : (v0 = v1)) (h1 : (¬ (((((v2 : Nat) : Int) + (12 : Int)) + ((v3 : Nat) : Int)) > ((v0 : Nat) : Int)))) : (((0 : Int) ≤ ((((v2 : Nat) : Int) + (8 : Int)) + ((v3 : Nat) : Int))) ∧ ((((((v2 : Nat) : Int) + (8 : Int)) + ((v3 : Nat) : Int)) + (4 : Int)) ≤ ((v1 : Nat) : Int))) := by omega
theorem ob129 {v0 : Nat} {v1 : Nat} {v2 : Nat} (h0 : (v0 = (v1 - v2))) (h1 : ((((v2 : Nat) : Int) + (4 : Int)) ≤ ((v1 : Nat) : Int))) : ((4 : Nat) ≤ v0) := by grind
theorem ob130 {v0 : Nat} {v1 : Nat} {v2 : Nat} {v3 : Nat} {v4 : Nat} (h0 : (v0 = (v1 - v2))) (h1 : (v3 = v1)) (h2 : (¬ (((((v2 : Nat) : Int) + (12 : Int)) + ((v4 : Nat) : Int)) > ((v3 : Nat) : Int)))) : (((12 : Nat) + v4) ≤ v0) := by omega
theorem ob131 {v0 : Nat} {v1 : Nat} (h0 : (((v0 : Nat) : Int) ≠ ((v1 : Nat) : Int))) : (v0 ≠ v1) := by grind
theorem ob132 {v0 : Nat} {v1 : Nat} (h0 : (((v0 : Nat) : Int) = ((v1 : Nat) : Int))) : (¬ (v0 ≠ v1)) := by grind
theorem ob133 {v0 : Nat} : ((min (4 : Nat) v0) ≤ (16777216 : Nat)) := by refine Nat.le_trans (Nat.min_le_left _ _) ?_; exact Nat.le_add_left _ _
theorem ob134 {v0 : Nat} (h0 : (v0 < (256 : Nat))) : (((v0 : Nat) : Int) ≤ (1114111 : Int)) := by omega
theorem ob135 {v0 : Nat} : (((min (4 : Nat) v0) + (min (4 : Nat) v0)) ≤ (1048576 : Nat)) := by grind
theorem ob136 {v0 : Nat} {v1 : Nat} {v2 : Nat} (h0 : (v0 ≤ v1)) (h1 : ((((v1 : Nat) : Int) + (4 : Int)) ≤ ((v2 : Nat) : Int))) (h2 : (v2 ≤ (1000000 : Nat))) : (v0 ≤ (16777216 : Nat)) := by grind
theorem ob137 {v0 : Nat} {v1 : Nat} : ((8 : Nat) ≤ (v0 + ((12 : Nat) + v1))) := by grind
theorem ob138 {v0 : Nat} {v1 : Nat} {v2 : Nat} (h0 : (v0 ≤ v1)) : ((v0 + (1 : Nat)) ≤ (v1 + ((12 : Nat) + v2))) := by grind
theorem ob139 {v0 : Nat} {v1 : Nat} {v2 : Nat} (h0 : ((((v0 : Nat) : Int) + (4 : Int)) ≤ ((v1 : Nat) : Int))) : ((v1 - (v0 + ((12 : Nat) + v2))) < (v1 - v0)) := by refine Nat.le_sub_of_add_le ?_; omega
theorem ob140 {v0 : Nat} {v1 : Nat} : (((((v0 : Nat) : Int) + (12 : Int)) + ((v1 : Nat) : Int)) = (((v0 : Nat) : Int) + ((12 : Int) + ((v1 : Nat) : Int)))) := by grind
theorem ob141 {v0 : Nat} {v1 : Nat} (h0 : (¬ (((v0 : Nat) : Int) < ((v1 : Nat) : Int)))) (h1 : (v0 ≤ v1)) : (v0 = v1) := by grind
theorem ob142 {v0 : Nat} (h0 : (v0 < (256 : Nat))) : ((v0 % ((2 : Nat) ^ (8 : Nat))) = v0) := by grind
theorem ob143 {v0 : Nat} {v1 : Nat} (h0 : (v0 < v1)) : ((min v0 v1) = v0) := by refine Nat.min_eq_left ?_; exact Nat.le_of_lt h0
theorem ob144 {v0 : Nat} : ((Int.toNat (((v0 : Nat) : Int) - (4 : Int))) = (v0 - (4 : Nat))) := by grind
theorem ob145 {v0 : Nat} (h0 : (((v0 : Nat) : Int) ≥ (4 : Int))) : ((0 : Int) ≤ (((v0 : Nat) : Int) - (4 : Int))) := by refine Int.sub_nonneg_of_le ?_; exact h0
theorem ob146 {v0 : Nat} {v1 : Nat} {v2 : Nat} {v3 : Nat} (h0 : (v0 = v1)) (h1 : (v1 < v2)) (h2 : (v2 ≤ v3)) (h3 : (v3 ≤ (1000000 : Nat))) : (v0 ≤ (16777216 : Nat)) := by grind
theorem ob147 {v0 : Nat} {v1 : Nat} (h0 : (((v0 : Nat) : Int) ≥ (4 : Int))) (h1 : (v0 < v1)) : ((v0 - (4 : Nat)) < (min v0 v1)) := by grind
theorem ob148 {v0 : Nat} {v1 : Nat} {v2 : Nat} (h0 : (v0 ≤ v1)) (h1 : (v2 < v0)) : ((v2 - (4 : Nat)) < v1) := by omega
theorem ob149 {v0 : Nat} {v1 : Nat} (h0 : (v0 = v1)) (h1 : (v1 ≤ (1000000 : Nat))) : (v0 ≤ (1099511627776 : Nat)) := by exact Nat.le_trans (Nat.le_of_eq h0) (Nat.le_trans h1 (Nat.le_of_ble_eq_true rfl))
theorem ob150 {v0 : Nat} {v1 : Nat} {v2 : Nat} {v3 : Nat} (h0 : (v0 = v1)) (h1 : (v1 < v2)) (h2 : (v2 ≤ v3)) (h3 : (v3 ≤ (1000000 : Nat))) : (v0 < (16777216 : Nat)) := by grind
theorem ob151 {v0 : Nat} {v1 : Nat} (h0 : ((v0 = ((v1 / (16777216 : Nat)) % (256 : Nat))) ∨ ((v0 = ((v1 / (65536 : Nat)) % (256 : Nat))) ∨ ((v0 = ((v1 / (256 : Nat)) % (256 : Nat))) ∨ (v0 = (v1 % (256 : Nat))))))) : (v0 < (256 : Nat)) := by grind
theorem ob152 {v0 : Nat} (h0 : (v0 < (4294967296 : Nat))) : (((((((v0 / (16777216 : Nat)) % (256 : Nat)) * (16777216 : Nat)) + (((v0 / (65536 : Nat)) % (256 : Nat)) * (65536 : Nat))) + (((v0 / (256 : Nat)) % (256 : Nat)) * (256 : Nat))) + (v0 % (256 : Nat))) = v0) := by omega
theorem ob153 {v0 : Nat} {v1 : Nat} (h0 : ((v0 < (65521 : Nat)) ∧ (v1 < (65521 : Nat)))) : (((v1 * (65536 : Nat)) + v0) < (4294967296 : Nat)) := by grind
theorem ob154 {v0 : Nat} {v1 : Nat} (h0 : ((v0 = (120 : Nat)) ∨ ((v0 = (1 : Nat)) ∨ ((v0 = (1 : Nat)) ∨ ((v0 = (v1 % (256 : Nat))) ∨ ((v0 = (v1 / (256 : Nat))) ∨ ((v0 = ((255 : Nat) - (v1 % (256 : Nat)))) ∨ (v0 = ((255 : Nat) - (v1 / (256 : Nat))))))))))) (h1 : (v1 < (65536 : Nat))) : (v0 < (256 : Nat)) := by omega
theorem ob155 {v0 : Nat} {v1 : Nat} (h0 : (v0 = (v1 + (11 : Nat)))) (h1 : (v1 < (65536 : Nat))) : (v0 ≤ (16777216 : Nat)) := by grind
theorem ob156 {v0 : Nat} : ((v0 % (256 : Nat)) < (256 : Nat)) := by exact Nat.mod_lt _ (by decide)
theorem ob157 {v0 : Nat} (h0 : (v0 < (65536 : Nat))) : ((v0 / (256 : Nat)) < (256 : Nat)) := by refine Nat.div_lt_of_lt_mul ?_; exact h0
theorem ob158 {v0 : Nat} {v1 : Nat} (h0 : (v0 = (v1 + (11 : Nat)))) : (((7 : Nat) + ((v1 % (256 : Nat)) + ((256 : Nat) * (v1 / (256 : Nat))))) ≤ v0) := by grind
theorem ob159 {v0 : Nat} : (((v0 % (256 : Nat)) + ((256 : Nat) * (v0 / (256 : Nat)))) = v0) := by grind
theorem ob160 {v0 : Nat} {v1 : Nat} (h0 : (v0 = (v1 + (11 : Nat)))) (h1 : (v1 < (65536 : Nat))) : (v0 < ((2 : Nat) ^ (40 : Nat))) := by omega
theorem ob161 {v0 : Nat} : ((2 : Int) ≤ (((v0 : Nat) : Int) + (11 : Int))) := by refine Int.ofNat_le.mpr ?_; exact Nat.le_add_left _ _
theorem ob162 {v0 : Nat} {v1 : Nat} (h0 : (v0 = (v1 + (11 : Nat)))) : ((0 : Nat) < v0) := by refine Nat.lt_of_lt_of_le ?_ (Nat.le_of_eq (Eq.symm h0)); exact Nat.succ_pos _
theorem ob163 {v0 : Nat} {v1 : Nat} (h0 : (v0 = (v1 + (11 : Nat)))) (h1 : (v1 < (65536 : Nat))) : (v0 ≤ (1099511627776 : Nat)) := by grind
theorem ob164 {v0 : Nat} {v1 : Nat} (h0 : (v0 = (v1 + (11 : Nat)))) : ((1 : Nat) < v0) := by grind
theorem ob165 {v0 : Nat} {v1 : Nat} (h0 : (v0 = (v1 + (11 : Nat)))) : ((2 : Nat) < v0) := by refine Nat.lt_of_lt_of_le ?_ (Nat.le_of_eq (Eq.symm h0)); exact Nat.le_add_left _ _
theorem ob166 {v0 : Nat} : ((((7 : Nat) + v0) - (7 : Nat)) = v0) := by simp
theorem ob167 {v0 : Nat} {v1 : Nat} (h0 : (v0 = v1)) (h1 : (v1 < (65536 : Nat))) : (((0 : Nat) + v0) ≤ (16777216 : Nat)) := by grind
theorem ob168 {v0 : Nat} : ((((7 : Int) + ((v0 : Nat) : Int)) + (4 : Int)) = (((v0 : Nat) : Int) + (11 : Int))) := by grind
theorem ob169 {v0 : Nat} {v1 : Nat} (h0 : (v0 = (v1 + (11 : Nat)))) : (((0 : Int) ≤ ((((7 : Nat) + v1) : Nat) : Int)) ∧ ((((((7 : Nat) + v1) : Nat) : Int) + (4 : Int)) ≤ ((v0 : Nat) : Int))) := by grind
theorem ob170 {v0 : Nat} {v1 : Nat} (h0 : (v0 = v1)) (h1 : (v1 ≤ (1000000 : Nat))) : (v0 < ((2 : Nat) ^ (60 : Nat))) := by omega
theorem ob171 {v0 : Nat} : ((1 : Int) ≤ (((v0 : Nat) : Int) + (1 : Int))) := by refine Int.ofNat_le.mpr ?_; exact Nat.succ_pos _
theorem ob172 {v0 : Nat} : ((Int.toNat ((-(1 : Int)) + (((v0 : Nat) : Int) + (1 : Int)))) = v0) := by grind
theorem ob173 {v0 : Nat} (h0 : (v0 ≤ (1000000 : Nat))) : (v0 < ((2 : Nat) ^ (60 : Nat))) := by exact Nat.lt_of_le_of_lt h0 (Nat.le_of_ble_eq_true rfl)
theorem ob174 {v0 : Nat} (h0 : (v0 ≤ (1 : Nat))) (h1 : ((1 : Int) < ((v0 : Nat) : Int))) : False := by have h := Int.ofNat_lt.mp h1; exact absurd h (Nat.not_lt.mpr h0)
theorem ob175 {v0 : Nat} (h0 : (((v0 : Nat) : Int) ≤ (1 : Int))) : (v0 ≤ (1 : Nat)) := by exact Int.ofNat_le.mp h0
theorem ob176 {v0 : Nat} {v1 : Nat} (h0 : (v0 = v1)) (h1 : (v1 = (13 : Nat))) : (v0 ≤ (16777216 : Nat)) := by grind
theorem ob177 {v0 : Nat} (h0 : (v0 ≤ (0 : Nat))) : (v0 = (0 : Nat)) := by rcases h0 with h | h; rfl
theorem ob178 {v0 : Nat} {v1 : Nat} {v2 : Nat} (h0 : (v0 ≤ (v1 + (1 : Nat)))) : ((v0 - ((12 : Nat) + v2)) ≤ v1) := by omega
theorem ob179 {p0 : Prop} {v1 : Nat} {v2 : Nat} {v3 : Nat} {v4 : Nat} {v5 : Nat} (h0 : (p0 ∧ (v1 ≤ (v2 - ((12 : Nat) + v3))))) (h1 : (((4 : Nat) ≤ v2) ∧ ((((12 : Nat) + v3) ≤ v2) ∧ (v4 = v5)))) : ((v1 + (1 : Nat)) ≤ v2) := by show (_ : Nat) < _; omega
theorem ob180 {v0 : Nat} {v1 : Nat} : ((min ((4 : Nat) + v0) (v1 - (4 : Nat))) ≤ (v1 + (4 : Nat))) := by refine Nat.le_trans (Nat.min_le_right _ _) ?_; omega
theorem ob181 {v0 : Nat} {v1 : Nat} {v2 : Nat} (h0 : (v0 ≤ (v1 - ((12 : Nat) + v2)))) : (v0 ≤ v1) := by refine Nat.le_trans h0 ?_; exact Nat.sub_le _ _
theorem ob182 {v0 : Nat} {v1 : Nat} (h0 : (v0 ≤ (v1 - (8 : Nat)))) : (v0 ≤ v1) := by omega
theorem ob183 {p0 : Prop} {v1 : Nat} {v2 : Nat} (h0 : (p0 ∧ (v1 ≤ (v2 - (8 : Nat))))) : (v1 ≤ v2) := by omega
theorem ob184 {p0 : Prop} {v1 : Nat} {v2 : Nat} (h0 : (p0 ∧ (v1 ≤ v2))) (h1 : (v2 ≤ (1000000 : Nat))) : (v1 ≤ (1000000 : Nat)) := by grind
theorem ob185 {p0 : Prop} {v1 : Nat} {v2 : Nat} (h0 : (p0 ∧ (v1 ≤ v2))) (h1 : (v2 ≤ (1000000 : Nat))) : (v1 < ((2 : Nat) ^ (60 : Nat))) := by refine Nat.lt_succ_of_le ?_; omega
theorem ob186 {v0 : Nat} (h0 : (v0 = (13 : Nat))) : (v0 ≤ (16777216 : Nat)) := by refine Nat.le_trans (Nat.le_of_eq h0) ?_; exact Nat.le_add_left _ _
theorem ob187 {v0 : Nat} (h0 : (v0 = (13 : Nat))) : (((0 : Int) ≤ (0 : Int)) ∧ (((0 : Int) + (4 : Int)) ≤ ((v0 : Nat) : Int))) := by subst h0; decide
theorem ob188 {v0 : Nat} (h0 : (v0 = (13 : Nat))) : (((0 : Int) ≤ (4 : Int)) ∧ (((4 : Int) + (4 : Int)) ≤ ((v0 : Nat) : Int))) := by grind
theorem ob189 {v0 : Nat} {v1 : Nat} {v2 : Nat} {p3 : Prop} {v4 : Nat} (h0 : (v0 ≤ (min v1 v2))) (h1 : (p3 ∧ (v2 ≤ v4))) (h2 : (v4 ≤ (1000000 : Nat))) : (v0 ≤ (16777216 : Nat)) := by grind
theorem ob190 {v0 : Nat} {v1 : Nat} (h0 : (v0 = v1)) (h1 : (v1 < (65536 : Nat))) : (v0 < ((2 : Nat) ^ (40 : Nat))) := by omega
theorem ob191 {v0 : Nat} (h0 : (v0 ≤ (3 : Nat))) : ((Int.natAbs ((v0 : Nat) : Int)) < ((2 : Nat) ^ (64 : Nat))) := by exact Nat.lt_of_le_of_lt h0 (Nat.le_of_ble_eq_true rfl)
theorem ob192 {v0 : Nat} (h0 : (v0 ≤ (3 : Nat))) : ((Int.natAbs ((1 : Int) + ((4 : Int) * ((v0 : Nat) : Int)))) < ((2 : Nat) ^ (64 : Nat))) := by refine Nat.lt_succ_of_le ?_; omega
theorem ob193 {v0 : Nat} {v1 : Nat} {v2 : Nat} {v3 : Nat} {v4 : Nat} (h0 : (v0 = (v1 * v2))) (h1 : (((1 : Nat) + ((4 : Nat) * v3)) = v2)) (h2 : (((v4 * v2) + v2) ≤ (v1 * v2))) : ((min ((4 : Nat) * v3) (v0 - ((v4 * v2) + (1 : Nat)))) = ((4 : Nat) * v3)) := by refine Nat.min_eq_left ?_; omega
theorem ob194 {v0 : Nat} {v1 : Nat} {v2 : Nat} {v3 : Nat} {v4 : Nat} {v5 : Nat} (h0 : (v0 = ((4 : Nat) * v1))) (h1 : (((1 : Nat) + ((4 : Nat) * v1)) = v2)) (h2 : (((v3 * v2) + v2) ≤ (v4 * v2))) (h3 : (v5 = (v4 * v2))) (h4 : (v5 < (65536 : Nat))) : (v0 ≤ (1000000 : Nat)) := by grind
theorem ob195 {v0 : Nat} {v1 : Nat} {v2 : Nat} (h0 : (v0 = ((4 : Nat) * v1))) (h1 : (v2 = ((4 : Nat) * v1))) : (v0 ≤ v2) := by subst h1; exact Nat.le_of_eq h0
theorem ob196 {v0 : Nat} {v1 : Nat} {v2 : Nat} {v3 : Nat} {v4 : Nat} (h0 : (v0 = ((4 : Nat) * v1))) (h1 : (((1 : Nat) + ((4 : Nat) * v1)) = v2)) (h2 : ((((0 : Nat) * v2) + v2) ≤ (v3 * v2))) (h3 : (v4 = (v3 * v2))) (h4 : (v4 < (65536 : Nat))) : (v0 ≤ (1000000 : Nat)) := by grind
theorem ob197 {v0 : Nat} {v1 : Nat} (h0 : (v0 = ((4 : Nat) * v1))) (h1 : ((1 : Nat) ≤ v1)) : ((0 : Nat) < v0) := by grind
theorem ob198 {v0 : Nat} (h0 : (v0 ≤ (3 : Nat))) : (((4 : Int) * ((v0 : Nat) : Int)) ≤ (16777216 : Int)) := by grind
theorem ob199 {v0 : Nat} (h0 : (v0 ≤ (3 : Nat))) : (((v0 : Nat) : Int) < ((2 : Int) ^ (40 : Nat))) := by exact Int.ofNat_lt.mpr (Nat.lt_of_le_of_lt h0 (Nat.le_of_ble_eq_true rfl))
theorem ob200 {v0 : Nat} {v1 : Nat} (h0 : (v0 < v1)) (h1 : (v1 ≤ (3 : Nat))) : ((Int.natAbs ((v0 : Nat) : Int)) < ((2 : Nat) ^ (64 : Nat))) := by exact Nat.le_trans h0 (Nat.le_trans h1 (Nat.le_of_ble_eq_true rfl))
theorem ob201 {v0 : Nat} {v1 : Nat} {v2 : Nat} {v3 : Nat} {v4 : Nat} (h0 : (((1 : Nat) + ((4 : Nat) * v0)) = v1)) (h1 : (((v2 * v1) + v1) ≤ (v3 * v1))) (h2 : (v4 = (v3 * v1))) : ((v2 * v1) < v4) := by grind
theorem ob202 {v0 : Nat} {v1 : Nat} (h0 : (v0 = v1)) (h1 : (v1 < (65536 : Nat))) : (v0 ≤ (1099511627776 : Nat)) := by grind
theorem ob203 {v0 : Nat} {v1 : Nat} (h0 : (v0 = v1)) (h1 : (v1 < (65536 : Nat))) : (v0 ≤ (16777216 : Nat)) := by refine Nat.le_trans (Nat.le_of_eq h0) ?_; exact Nat.le_trans (Nat.le_of_lt h1) (Nat.le_of_ble_eq_true rfl)
theorem ob204 {v0 : Nat} {v1 : Nat} {v2 : Nat} : (((((v0 * v1) + (1 : Nat)) + ((4 : Nat) * v2)) - ((v0 * v1) + (1 : Nat))) = ((4 : Nat) * v2)) := by simp
theorem ob205 {v0 : Nat} {v1 : Nat} {v2 : Nat} {v3 : Nat} {v4 : Nat} {v5 : Nat} (h0 : (v0 < v1)) (h1 : (((1 : Nat) + ((4 : Nat) * v1)) = v2)) (h2 : (((v3 * v2) + v2) ≤ (v4 * v2))) (h3 : (v5 = (v4 * v2))) (h4 : (v5 < (65536 : Nat))) : ((Int.natAbs ((v0 : Nat) : Int)) < ((2 : Nat) ^ (64 : Nat))) := by refine Nat.lt_of_lt_of_le h0 ?_; omega
theorem ob206 {v0 : Nat} {v1 : Nat} {v2 : Nat} {v3 : Nat} {v4 : Nat} {v5 : Nat} (h0 : (v0 = ((4 : Nat) * v1))) (h1 : (((1 : Nat) + ((4 : Nat) * v1)) = v2)) (h2 : (((v3 * v2) + v2) ≤ (v4 * v2))) (h3 : (v5 = (v4 * v2))) (h4 : (v5 < (65536 : Nat))) : (v0 ≤ (16777216 : Nat)) := by grind
theorem ob207 {v0 : Nat} : (((((4 : Nat) * v0) + (4 : Nat)) - ((4 : Nat) * v0)) = (4 : Nat)) := by simp
theorem ob208 {v0 : Nat} {v1 : Nat} (h0 : (v0 < v1)) (h1 : (v1 ≤ (3 : Nat))) : (v0 ≤ (16777216 : Nat)) := by grind
theorem ob209 {v0 : Nat} {v1 : Nat} (h0 : (v0 = v1)) (h1 : (v1 ≤ (63 : Nat))) : (v0 < ((2 : Nat) ^ (40 : Nat))) := by refine Nat.lt_succ_of_le ?_; exact Nat.le_trans (Nat.le_of_eq h0) (Nat.le_trans h1 (Nat.le_of_ble_eq_true rfl))
theorem ob210 {v0 : Nat} {v1 : Nat} (h0 : (v0 = v1)) (h1 : (v1 ≤ (63 : Nat))) : (v0 < ((2 : Nat) ^ (60 : Nat))) := by refine Nat.lt_succ_of_le ?_; exact Nat.le_trans (Nat.le_of_eq h0) (Nat.le_trans h1 (Nat.le_of_ble_eq_true rfl))
theorem ob211 {v0 : Int} : ((Int.natAbs ((v0 % (2147483629 : Int)) + (17 : Int))) < ((2 : Nat) ^ (64 : Nat))) := by grind
theorem ob212 {v0 : Int} : (((((v0 % (2147483629 : Int)) + (17 : Int)) * (48271 : Int)) % (2147483647 : Int)) < (2147483648 : Int)) := by grind
theorem ob213 {v0 : Nat} (h0 : (v0 < (4 : Nat))) : (((v0 : Nat) : Int) ≤ (100 : Int)) := by refine Int.ofNat_le.mpr ?_; exact Nat.le_trans (Nat.le_of_lt h0) (Nat.le_of_ble_eq_true rfl)
theorem ob214 {v0 : Nat} (h0 : (v0 < (4 : Nat))) : ((v0 = (0 : Nat)) ∨ ((v0 = (1 : Nat)) ∨ ((v0 = (2 : Nat)) ∨ (v0 = (3 : Nat))))) := by grind
theorem ob215 {v0 : Nat} : (((((v0 : Nat) : Int) / (16777216 : Int)) % (256 : Int)) = ((((v0 / (16777216 : Nat)) % (256 : Nat)) : Nat) : Int)) := by rfl
theorem ob216 {v0 : Nat} : (((((v0 : Nat) : Int) / (65536 : Int)) % (256 : Int)) = ((((v0 / (65536 : Nat)) % (256 : Nat)) : Nat) : Int)) := by rfl
theorem ob217 {v0 : Nat} : (((((v0 : Nat) : Int) / (1 : Int)) % (256 : Int)) = (((v0 % (256 : Nat)) : Nat) : Int)) := by simp
theorem ob218 {v0 : Nat} (h0 : (v0 < (Int.toNat (8 : Int)))) : (((v0 : Nat) : Int) ≤ (100 : Int)) := by grind
theorem ob219 {v0 : Nat} (h0 : ((0 : Nat) < ((2 : Nat) ^ v0))) : ((0 : Int) < ((((2 : Nat) ^ v0) : Nat) : Int)) := by exact Int.ofNat_lt.mpr h0
theorem ob220 {v0 : Nat} (h0 : (((2 : Nat) ^ v0) ≤ ((2 : Nat) ^ (7 : Nat)))) : (((((2 : Nat) ^ v0) : Nat) : Int) < (1073741824 : Int)) := by exact Int.ofNat_lt.mpr (Nat.lt_of_le_of_lt h0 (Nat.le_of_ble_eq_true rfl))
theorem ob221 {v0 : Nat} {v1 : Nat} {v2 : Nat} (h0 : (((((v0 : Nat) : Int) + (((v1 / ((2 : Nat) ^ v2)) : Nat) : Int)) % (2 : Int)) = (1 : Int))) : (((v0 + (v1 / ((2 : Nat) ^ v2))) % (2 : Nat)) = (1 : Nat)) := by exact Int.ofNat.inj h0
theorem ob222 {v0 : Nat} {v1 : Nat} {v2 : Nat} (h0 : (((((v0 : Nat) : Int) + (((v1 / ((2 : Nat) ^ v2)) : Nat) : Int)) % (2 : Int)) ≠ (1 : Int))) : (¬ (((v0 + (v1 / ((2 : Nat) ^ v2))) % (2 : Nat)) = (1 : Nat))) := by grind
theorem ob223 {v0 : Nat} {v1 : Nat} (h0 : (v0 ≤ (100 : Nat))) (h1 : (v1 ≤ (100000 : Nat))) : ((v0 + v1) ≤ (16777216 : Nat)) := by grind
theorem ob224 {v0 : Nat} (h0 : (v0 ≤ (100000 : Nat))) : (v0 < ((2 : Nat) ^ (40 : Nat))) := by exact Nat.lt_of_le_of_lt h0 (Nat.le_of_ble_eq_true rfl)
theorem ob225 {v0 : Nat} {v1 : Nat} (h0 : (v0 ≤ (100 : Nat))) (h1 : (v1 ≤ (100000 : Nat))) : (((4 : Nat) + (v0 + v1)) ≤ (16777216 : Nat)) := by grind
theorem ob226 {v0 : Nat} {v1 : Nat} (h0 : (v0 ≤ (100 : Nat))) (h1 : (v1 ≤ (100000 : Nat))) : ((((4 : Nat) + (v0 + v1)) + (4 : Nat)) ≤ (16777216 : Nat)) := by grind
theorem ob227 {v0 : Nat} {v1 : Nat} (h0 : ((v0 + (1 : Nat)) ≤ v1)) : (v1 = ((v1 - (1 : Nat)) + (1 : Nat))) := by grind
theorem ob228 {v0 : Nat} {v1 : Nat} {v2 : Nat} {v3 : Nat} : (((((v0 + (1 : Nat)) * v1) + ((1 : Nat) * v1)) + (v2 + v3)) = ((((v0 + (1 : Nat)) * v1) + v2) + (v1 + v3))) := by grind
theorem ob229 {v0 : Nat} {v1 : Nat} : (((v0 - (1 : Nat)) - v1) = (v0 - (v1 + (1 : Nat)))) := by rw [Nat.add_comm]; exact Nat.sub_sub _ _ _
theorem ob230 {v0 : Nat} {v1 : Nat} {v2 : Nat} {v3 : Nat} {v4 : Nat} : (((v0 * v1) + (v2 + ((v0 - (v3 + (1 : Nat))) * v4))) = (((v0 * v1) + v2) + ((v0 - (v3 + (1 : Nat))) * v4))) := by exact (Nat.add_assoc _ _ _).symm
theorem ob231 {v0 : Nat} : (((v0 + (1 : Nat)) - v0) = (1 : Nat)) := by simp
theorem ob232 {v0 : Nat} {v1 : Nat} {v2 : Nat} {v3 : Nat} : (((v0 + (1 : Nat)) + ((v1 + v2) + ((1 : Nat) * v3))) = ((v0 + v1) + (((1 : Nat) + v2) + v3))) := by grind
theorem ob233 {v0 : Nat} {v1 : Nat} : (((1 : Nat) + (v0 + v1)) = (((1 : Nat) + v0) + v1)) := by exact (Nat.add_assoc _ _ _).symm
theorem ob234 {v0 : Nat} {v1 : Nat} {v2 : Nat} (h0 : ((v0 + (v1 + (1 : Nat))) ≤ v2)) : (((v0 + (1 : Nat)) + v1) ≤ v2) := by grind
theorem ob235 {v0 : Nat} {v1 : Nat} {v2 : Nat} (h0 : ((v0 + (v1 + (1 : Nat))) ≤ v2)) : (v0 ≤ v2) := by refine Nat.le_trans ?_ h0; exact Nat.le_add_right _ _
theorem ob236 {v0 : Nat} {v1 : Nat} (h0 : (v0 = v1)) (h1 : (v1 ≤ (1000 : Nat))) : (v0 < ((2 : Nat) ^ (40 : Nat))) := by omega
theorem ob237 {v0 : Nat} {v1 : Nat} {v2 : Nat} (h0 : (v0 = v1)) (h1 : (v1 ≤ (1000 : Nat))) (h2 : (v2 < v1)) : ((Int.natAbs (((v0 : Nat) : Int) - ((v2 : Nat) : Int))) < ((2 : Nat) ^ (64 : Nat))) := by subst h0; omega
theorem ob238 {v0 : Nat} : (((0 : Nat) + v0) ≤ v0) := by simp
theorem ob239 {v0 : Nat} : (((255 : Int) - (((v0 : Nat) : Int) % (256 : Int))) = ((((255 : Nat) - (v0 % (256 : Nat))) : Nat) : Int)) := by grind
theorem ob240 {v0 : Nat} (h0 : (v0 ≤ (1000 : Nat))) : (((255 : Int) - (((v0 : Nat) : Int) / (256 : Int))) = ((((255 : Nat) - (v0 / (256 : Nat))) : Nat) : Int)) := by grind
theorem ob241 {v0 : Nat} {v1 : Nat} (h0 : (v0 = v1)) (h1 : (v1 ≤ (1000 : Nat))) : (v0 ≤ (16777216 : Nat)) := by exact Nat.le_trans (Nat.le_of_eq h0) (Nat.le_trans h1 (Nat.le_of_ble_eq_true rfl))
theorem ob242 {v0 : Nat} (h0 : (v0 ≤ (1000 : Nat))) : (((7 : Nat) + v0) ≤ (16777216 : Nat)) := by grind
theorem ob243 {v0 : Nat} : ((Int.natAbs (((v0 : Nat) : Int) % (65521 : Int))) < ((2 : Nat) ^ (64 : Nat))) := by grind
theorem ob244 {v0 : Nat} (h0 : (v0 ≤ (1000 : Nat))) : ((((7 : Nat) + v0) + (4 : Nat)) ≤ (16777216 : Nat)) := by grind
theorem ob245 {v0 : Nat} (h0 : (v0 ≤ (300 : Nat))) : (v0 < ((2 : Nat) ^ (40 : Nat))) := by exact Nat.lt_of_le_of_lt h0 (Nat.le_of_ble_eq_true rfl)
theorem ob246 {v0 : Nat} (h0 : (v0 ≤ (300 : Nat))) : (v0 < ((2 : Nat) ^ (60 : Nat))) := by exact Nat.lt_of_le_of_lt h0 (Nat.le_of_ble_eq_true rfl)
theorem ob247 {v0 : Nat} (h0 : (((v0 : Nat) : Int) < (2 : Int))) : (((1 : Int) + ((v0 : Nat) : Int)) < ((2 : Int) ^ (40 : Nat))) := by grind
theorem ob248 {v0 : Nat} {v1 : Nat} (h0 : (v0 < ((1 : Nat) + v1))) (h1 : (((v1 : Nat) : Int) < (2 : Int))) : (v0 ≤ (16777216 : Nat)) := by grind
theorem ob249 {v0 : Nat} {v1 : Nat} (h0 : (v0 = v1)) (h1 : (v1 ≤ (300 : Nat))) : (v0 < ((2 : Nat) ^ (40 : Nat))) := by refine Nat.lt_succ_of_le ?_; exact Nat.le_trans (Nat.le_of_eq h0) (Nat.le_trans h1 (Nat.le_of_ble_eq_true rfl))
theorem ob250 {v0 : Nat} (h0 : ((3 : Nat) ≤ v0)) : ((0 : Int) < (((v0 : Nat) : Int) - (2 : Int))) := by omega
theorem ob251 {v0 : Nat} (h0 : (v0 ≤ (300 : Nat))) : ((((v0 : Nat) : Int) - (2 : Int)) ≤ (300 : Int)) := by grind
theorem ob252 {v0 : Nat} {v1 : Nat} {v2 : Nat} (h0 : (v0 = ((1 : Nat) + v1))) (h1 : (((v1 : Nat) : Int) < (((v2 : Nat) : Int) - (2 : Int)))) : (v0 ≤ v2) := by grind
theorem ob253 {v0 : Nat} {v1 : Nat} (h0 : (v0 = ((1 : Nat) + v1))) (h1 : (((v1 : Nat) : Int) < (2 : Int))) : (v0 < (64 : Nat)) := by subst h0; omega
theorem ob254 {v0 : Int} {v1 : Int} (h0 : (v0 ≤ v1)) : ((Int.toNat v0) ≤ (Int.toNat v1)) := by grind
theorem ob255 {v0 : Nat} (h0 : (((v0 : Nat) : Int) < (2 : Int))) : (((1 : Nat) + v0) ≤ (2 : Nat)) := by rw [Nat.add_comm]; exact Int.ofNat_lt.mp h0
theorem ob256 {v0 : Nat} {v1 : Nat} (h0 : (v0 = v1)) (h1 : (v1 ≤ (2 : Nat))) : ((((0 : Nat) + (1 : Nat)) + v0) ≤ (16777216 : Nat)) := by grind
theorem ob257 {v0 : Nat} (h0 : (v0 ≤ (2 : Nat))) : ((min ((1 : Nat) + v0) (v0 + (1 : Nat))) ≤ (4 : Nat)) := by refine Nat.le_trans (Nat.min_le_right _ _) ?_; exact Nat.lt_of_le_of_lt h0 (Nat.le_of_ble_eq_true rfl)
theorem ob258 {v0 : Nat} (h0 : (v0 ≤ (4 : Nat))) : (((0 : Nat) + v0) ≤ (16777216 : Nat)) := by refine Nat.le_trans (Nat.add_le_add_left h0 _) ?_; exact Nat.le_add_left _ _
theorem ob259 {v0 : Nat} {v1 : Nat} (h0 : (v0 = v1)) (h1 : (v1 ≤ (300 : Nat))) : (v0 ≤ (16777216 : Nat)) := by exact Nat.le_trans (Nat.le_of_eq h0) (Nat.le_trans h1 (Nat.le_of_ble_eq_true rfl))
theorem ob260 {v0 : Nat} {v1 : Nat} : (((((4 : Nat) * v0) + (1 : Nat)) + v1) = (v1 + ((1 : Nat) * ((1 : Nat) + ((4 : Nat) * v0))))) := by grind
theorem ob261 {v0 : Nat} (h0 : (v0 ≤ (3 : Nat))) : (((2 : Nat) * ((1 : Nat) + ((4 : Nat) * v0))) ≤ (26 : Nat)) := by grind
theorem ob262 {v0 : Nat} {v1 : Nat} {v2 : Nat} (h0 : (v0 = (v1 * ((1 : Nat) + ((4 : Nat) * v2))))) (h1 : ((v1 * ((1 : Nat) + ((4 : Nat) * v2))) ≤ (26 : Nat))) : (((0 : Nat) + v0) ≤ (16777216 : Nat)) := by omega
theorem ob263 {v0 : Nat} (h0 : (v0 ≤ (3 : Nat))) : (((4 : Nat) * v0) ≤ (12 : Nat)) := by refine Nat.le_trans (Nat.mul_le_mul_left _ h0) ?_; exact Nat.lt_succ_self _
theorem ob264 {v0 : Nat} (h0 : (v0 ≤ (12 : Nat))) : (((0 : Nat) + v0) ≤ (16777216 : Nat)) := by refine Nat.le_trans (Nat.add_le_add_left h0 _) ?_; exact Nat.le_add_left _ _
theorem ob265 {v0 : Nat} (h0 : (v0 ≤ (12 : Nat))) : (((1 : Nat) + v0) ≤ (16777216 : Nat)) := by refine Nat.le_trans (Nat.add_le_add_left h0 _) ?_; exact Nat.le_add_left _ _
theorem ob266 {v0 : Nat} {v1 : Nat} {v2 : Nat} (h0 : (v0 = (v1 * ((1 : Nat) + ((4 : Nat) * v2))))) (h1 : ((v1 * ((1 : Nat) + ((4 : Nat) * v2))) ≤ (26 : Nat))) : (v0 ≤ (1000 : Nat)) := by exact Nat.le_trans (Nat.le_of_eq h0) (Nat.le_trans h1 (Nat.le_of_ble_eq_true rfl))
theorem ob267 {v0 : Nat} {v1 : Nat} {v2 : Nat} (h0 : (v0 = (v1 * ((1 : Nat) + ((4 : Nat) * v2))))) (h1 : ((v1 * ((1 : Nat) + ((4 : Nat) * v2))) ≤ (26 : Nat))) : (v0 < (65536 : Nat)) := by refine Nat.lt_of_le_of_lt (Nat.le_of_eq h0) ?_; exact Nat.lt_of_le_of_lt h1 (Nat.le_of_ble_eq_true rfl)
theorem ob268 {v0 : Nat} {v1 : Nat} (h0 : (v0 = (v1 + (11 : Nat)))) : ((3 : Nat) ≤ v0) := by grind
theorem ob269 {v0 : Nat} {v1 : Nat} {v2 : Nat} {v3 : Nat} (h0 : (v0 = (v1 * ((1 : Nat) + ((4 : Nat) * v2))))) (h1 : (v3 = (v0 + (11 : Nat)))) (h2 : ((v1 * ((1 : Nat) + ((4 : Nat) * v2))) ≤ (26 : Nat))) : (v3 ≤ (300 : Nat)) := by grind
theorem ob270 {v0 : Nat} {v1 : Nat} {v2 : Nat} {v3 : Nat} {v4 : Nat} (h0 : (v0 ≤ v1)) (h1 : (v2 = (v3 * ((1 : Nat) + ((4 : Nat) * v4))))) (h2 : (v1 = (v2 + (11 : Nat)))) (h3 : ((v3 * ((1 : Nat) + ((4 : Nat) * v4))) ≤ (26 : Nat))) : (v0 ≤ (1000 : Nat)) := by grind
theorem ob271 {v0 : Nat} (h0 : (((v0 : Nat) : Int) < (3 : Int))) : (((v0 : Nat) : Int) < ((2 : Int) ^ (40 : Nat))) := by exact Int.lt_of_lt_of_le h0 (by decide)
theorem ob272 {v0 : Nat} {v1 : Nat} (h0 : (v0 < v1)) (h1 : (((v1 : Nat) : Int) < (3 : Int))) : (v0 ≤ (16777216 : Nat)) := by grind
theorem ob273 {v0 : Nat} {v1 : Nat} (h0 : (v0 = v1)) (h1 : (((v1 : Nat) : Int) < (256 : Int))) : (v0 < (256 : Nat)) := by refine Nat.lt_of_le_of_lt (Nat.le_of_eq h0) ?_; exact Int.ofNat_lt.mp h1
theorem ob274 {v0 : Nat} {v1 : Nat} {v2 : Nat} (h0 : (v0 ≤ ((2 : Nat) * v1))) (h1 : (v1 < v2)) (h2 : (v2 ≤ (3 : Nat))) : (v0 ≤ (16777215 : Nat)) := by grind
theorem ob275 {v0 : Nat} {v1 : Nat} (h0 : (v0 = v1)) (h1 : (((v1 : Nat) : Int) < (3 : Int))) : (v0 ≤ (1000 : Nat)) := by grind
theorem ob276 {v0 : Nat} {v1 : Nat} {v2 : Nat} {v3 : Nat} (h0 : (v0 ≤ (v1 + (1 : Nat)))) (h1 : (v1 ≤ ((2 : Nat) * v2))) (h2 : (v2 < v3)) (h3 : (v3 ≤ (3 : Nat))) : (v0 ≤ (16777215 : Nat)) := by grind
theorem ob277 {v0 : Nat} {v1 : Nat} {v2 : Nat} (h0 : (v0 ≤ (v1 + (1 : Nat)))) (h1 : (v1 ≤ ((2 : Nat) * v2))) : ((v0 + (1 : Nat)) ≤ ((2 : Nat) * (v2 + (1 : Nat)))) := by grind
theorem ob278 {v0 : Nat} {v1 : Nat} (h0 : (v0 ≤ ((2 : Nat) * v1))) (h1 : (v1 ≤ (3 : Nat))) : (v0 ≤ (16777214 : Nat)) := by grind
theorem ob279 {v0 : Nat} {v1 : Nat} (h0 : (v0 ≤ ((2 : Nat) * v1))) (h1 : (v1 ≤ (3 : Nat))) : (v0 ≤ (6 : Nat)) := by grind
theorem ob280 {v0 : Nat} : (((4 : Nat) + ((4 : Nat) + (v0 + (4 : Nat)))) = ((12 : Nat) + v0)) := by grind
theorem ob281 {v0 : Nat} {v1 : Nat} (h0 : (v0 ≤ ((1012 : Nat) * v1))) : (((8 : Nat) + v0) ≤ ((8 : Nat) + ((1012 : Nat) * v1))) := by exact Nat.add_le_add_left h0 _
theorem ob282 {v0 : Nat} (h0 : ((v0 = (137 : Nat)) ∨ ((v0 = (80 : Nat)) ∨ ((v0 = (78 : Nat)) ∨ ((v0 = (71 : Nat)) ∨ ((v0 = (13 : Nat)) ∨ ((v0 = (10 : Nat)) ∨ ((v0 = (26 : Nat)) ∨ (v0 = (10 : Nat)))))))))) : (v0 < (256 : Nat)) := by grind
theorem ob283 {v0 : Nat} (h0 : (v0 < (256 : Nat))) : (((0 : Int) ≤ ((v0 : Nat) : Int)) ∧ (((v0 : Nat) : Int) < (256 : Int))) := by grind
theorem ob284 {v0 : Nat} {v1 : Nat} {v2 : Nat} {v3 : Nat} (h0 : (v0 ≤ ((8 : Nat) + ((1012 : Nat) * (min v1 v2))))) (h1 : (v3 ≤ (1000 : Nat))) (h2 : (v2 ≤ (20 : Nat))) : ((v0 + ((12 : Nat) + v3)) ≤ (16777216 : Nat)) := by grind
theorem ob285 {v0 : Nat} {v1 : Nat} (h0 : (v0 ≤ ((8 : Nat) + ((1012 : Nat) * v1)))) (h1 : (v1 ≤ (20 : Nat))) : (v0 ≤ (16777216 : Nat)) := by grind
theorem ob286 {v0 : Nat} : ((Int.toNat (max (0 : Int) (min ((-(1 : Int)) + ((v0 : Nat) : Int)) ((v0 : Nat) : Int)))) = (v0 - (1 : Nat))) := by omega
theorem ob287 {v0 : Nat} {v1 : Nat} (h0 : (v0 = v1)) (h1 : (v1 ≤ (100000 : Nat))) : (v0 ≤ (16777216 : Nat)) := by exact Nat.le_trans (Nat.le_of_eq h0) (Nat.le_trans h1 (Nat.le_of_ble_eq_true rfl))
theorem ob288 {v0 : Nat} {v1 : Nat} {v2 : Nat} (h0 : (v0 = v1)) (h1 : ((33 : Nat) ≤ v1)) (h2 : (((v2 : Nat) : Int) < (8 : Int))) : (((v2 : Nat) : Int) < ((v0 : Nat) : Int)) := by rw [h0]; omega
theorem ob289 {v0 : Nat} {v1 : Nat} (h0 : (v0 = v1)) (h1 : (v1 ≤ (100000 : Nat))) : (v0 < ((2 : Nat) ^ (60 : Nat))) := by refine Nat.lt_succ_of_le ?_; exact Nat.le_trans (Nat.le_of_eq h0) (Nat.le_trans h1 (Nat.le_of_ble_eq_true rfl))
theorem ob290 {v0 : Nat} {v1 : Nat} {v2 : Nat} (h0 : ((33 : Nat) ≤ v0)) (h1 : (((12 : Nat) + v1) = v2)) (h2 : (((v1 : Nat) : Int) < ((25 : Int) - (4 : Int)))) : (v2 < v0) := by omega
theorem ob291 {v0 : Nat} {v1 : Nat} : ((((((v0 : Nat) : Int) + (1 : Int)) + ((v1 : Nat) : Int)) % (256 : Int)) = (((((v0 + (1 : Nat)) + v1) % (256 : Nat)) : Nat) : Int)) := by rfl
theorem ob292 {v0 : Nat} {v1 : Nat} {v2 : Nat} (h0 : (v0 = v1)) (h1 : (v2 < v1)) : (((v2 : Nat) : Int) < ((v0 : Nat) : Int)) := by omega
theorem ob293 {v0 : Nat} {v1 : Nat} : ((((v0 + (1 : Nat)) + v1) % (256 : Nat)) < (256 : Nat)) := by exact Nat.mod_lt _ (by decide)
theorem ob294 {v0 : Nat} {v1 : Nat} (h0 : (((12 : Nat) + v0) = v1)) : ((12 : Nat) ≤ v1) := by subst h0; exact Nat.le_add_right _ _
theorem ob295 {v0 : Nat} {v1 : Nat} (h0 : (((12 : Nat) + v0) = v1)) (h1 : (((v0 : Nat) : Int) < ((25 : Int) - (4 : Int)))) : (v1 < (33 : Nat)) := by subst h0; omega
theorem ob296 {v0 : Nat} {v1 : Nat} (h0 : (((v0 : Nat) : Int) < (255 : Int))) : (v1 ≠ (((v1 + (1 : Nat)) + v0) % (256 : Nat))) := by omega
theorem ob297 {v0 : Nat} {v1 : Nat} (h0 : (v0 = v1)) (h1 : (v1 ≤ (100000 : Nat))) : (v0 < ((2 : Nat) ^ (40 : Nat))) := by refine Nat.lt_succ_of_le ?_; exact Nat.le_trans (Nat.le_of_eq h0) (Nat.le_trans h1 (Nat.le_of_ble_eq_true rfl))
theorem ob298 {v0 : Nat} {v1 : Nat} {v2 : Nat} (h0 : (v0 = v1)) (h1 : ((33 : Nat) ≤ v1)) (h2 : (((v2 : Nat) : Int) < (11 : Int))) : (((((v0 : Nat) : Int) - (1 : Int)) - ((v2 : Nat) : Int)) = ((((v1 - (1 : Nat)) - v2) : Nat) : Int)) := by omega
theorem ob299 {v0 : Nat} {v1 : Nat} (h0 : (v0 ≤ (100000 : Nat))) : ((min ((v0 - (1 : Nat)) - v1) v0) ≤ (16777216 : Nat)) := by refine Nat.le_trans (Nat.min_le_right _ _) ?_; exact Nat.le_trans h0 (Nat.le_add_left _ _)
theorem ob300 {v0 : Nat} (h0 : ((v0 = (8 : Nat)) ∨ ((v0 = (6 : Nat)) ∨ ((v0 = (0 : Nat)) ∨ ((v0 = (0 : Nat)) ∨ (v0 = (0 : Nat))))))) : (v0 < (256 : Nat)) := by grind
theorem ob301 {v0 : Nat} (h0 : (v0 ≤ (10 : Nat))) : ((v0 + (1 : Nat)) < ((2 : Nat) ^ (60 : Nat))) := by refine Nat.lt_succ_of_le ?_; exact Nat.lt_of_le_of_lt h0 (Nat.le_of_ble_eq_true rfl)
theorem ob302 {v0 : Nat} {v1 : Nat} (h0 : (v0 = v1)) (h1 : (v1 ≤ (2 : Nat))) : (v0 < ((2 : Nat) ^ (40 : Nat))) := by omega
theorem ob303 {v0 : Nat} {v1 : Nat} {v2 : Nat} (h0 : (((v0 = (8 : Nat)) ∧ (v1 = (16 : Nat))) ∨ (((v0 = (9 : Nat)) ∧ (v1 = (2 : Nat))) ∨ (((v0 = (10 : Nat)) ∧ (v1 = (1 : Nat))) ∨ (((v0 = (11 : Nat)) ∧ (v1 = (1 : Nat))) ∨ (((v0 = (12 : Nat)) ∧ (v1 = (1 : Nat))) ∨ ((v0 = (7 : Nat)) ∧ (v1 = (v2 + (1 : Nat)))))))))) (h1 : (v2 ≤ (2 : Nat))) : ((v0 < (13 : Nat)) ∧ (v1 < (256 : Nat))) := by grind
theorem ob304 {v0 : Nat} {v1 : Nat} (h0 : ((v0 < (13 : Nat)) ∧ (v1 < (256 : Nat)))) : (((v0 : Nat) : Int) < (((13 : Nat) : Nat) : Int)) := by omega
theorem ob305 {v0 : Nat} (h0 : (v0 ≤ (10 : Nat))) : (((1 : Nat) + v0) ≤ (16777216 : Nat)) := by refine Nat.le_trans (Nat.add_le_add_left h0 _) ?_; exact Nat.le_add_left _ _
theorem ob306 {v0 : Nat} (h0 : (v0 ≤ (10 : Nat))) : (((v0 + (1 : Nat)) + (1 : Nat)) ≤ (16777216 : Nat)) := by refine Nat.lt_succ_of_le ?_; exact Nat.lt_of_le_of_lt h0 (Nat.le_of_ble_eq_true rfl)
theorem ob307 {v0 : Nat} (h0 : (v0 ≤ (10 : Nat))) : (((v0 + (1 : Nat)) + (1 : Nat)) ≤ (20 : Nat)) := by refine Nat.lt_succ_of_le ?_; exact Nat.lt_of_le_of_lt h0 (Nat.le_of_ble_eq_true rfl)
theorem ob308 {v0 : Nat} (h0 : (v0 ≤ (10 : Nat))) : ((((0 : Nat) + (1 : Nat)) + (v0 + (1 : Nat))) ≤ (16777216 : Nat)) := by grind
theorem ob309 {v0 : Nat} {v1 : Nat} {v2 : Nat} (h0 : (v0 ≤ (min v1 v2))) (h1 : (v2 ≤ (11 : Nat))) : (v0 ≤ (16777216 : Nat)) := by grind
theorem ob310 {v0 : Nat} {p1 : Prop} (h0 : ((v0 ≤ (11 : Nat)) ∧ p1)) : (v0 ≤ (20 : Nat)) := by omega
theorem ob311 {v0 : Nat} (h0 : (v0 = (0 : Nat))) : (v0 < (256 : Nat)) := by refine Nat.lt_of_le_of_lt (Nat.le_of_eq h0) ?_; exact Nat.succ_pos _
theorem ob312 {v0 : Nat} {v1 : Nat} {v2 : Nat} {v3 : Nat} (h0 : (v0 = (v1 * ((1 : Nat) + ((4 : Nat) * v2))))) (h1 : (v3 = (v0 + (11 : Nat)))) (h2 : ((v1 * ((1 : Nat) + ((4 : Nat) * v2))) ≤ (26 : Nat))) : (v3 ≤ (1000 : Nat)) := by grind
theorem ob313 {v0 : Nat} (h0 : (v0 ≤ (1000 : Nat))) : (v0 < (4294967296 : Nat)) := by exact Nat.lt_of_le_of_lt h0 (Nat.le_of_ble_eq_true rfl)
theorem ob314 {v0 : Nat} : (((4 : Nat) + ((4 : Nat) + v0)) = ((8 : Nat) + v0)) := by exact (Nat.add_assoc _ _ _).symm
theorem ob315 {v0 : Nat} : (((12 : Nat) + v0) = (((4 : Nat) + ((4 : Nat) + v0)) + (4 : Nat))) := by grind
theorem ob316 {v0 : Nat} {v1 : Nat} {v2 : Nat} (h0 : (v0 = (((12 : Nat) + v1) + v2))) : ((4 : Nat) ≤ v0) := by grind
theorem ob317 {v0 : Nat} {v1 : Nat} {v2 : Nat} (h0 : (v0 = (((12 : Nat) + v1) + v2))) : (((12 : Nat) + v1) ≤ v0) := by subst h0; exact Nat.le_add_right _ _
theorem ob318 {v0 : Nat} {v1 : Nat} (h0 : ((v0 + (11 : Nat)) = (v1 + (11 : Nat)))) : (v0 = v1) := by have h := Nat.add_right_cancel h0; exact h
theorem ob319 {v0 : Nat} (h0 : (v0 < (12 : Nat))) : ((min v0 (12 : Nat)) = v0) := by refine Nat.min_eq_left ?_; exact Nat.le_of_lt h0
theorem ob320 {v0 : Nat} (h0 : ((0 : Nat) = v0)) (h1 : ((1 : Nat) ≤ v0)) : False := by grind
theorem ob321 {v0 : Nat} {v1 : Nat} {v2 : Nat} (h0 : (v0 = v1)) (h1 : (v1 < (12 : Nat))) : (v0 < ((12 : Nat) + v2)) := by refine Nat.lt_of_le_of_lt (Nat.le_of_eq h0) ?_; exact Nat.lt_of_lt_of_le h1 (Nat.le_add_right _ _)
theorem ob322 {v0 : Nat} {v1 : Nat} (h0 : (v0 < (11 : Nat))) : (v1 ≤ (((v1 + (12 : Nat)) - (1 : Nat)) - v0)) := by omega
theorem ob323 {v0 : Nat} {v1 : Nat} : (((((v0 + (12 : Nat)) - (1 : Nat)) - v1) - v0) = ((11 : Nat) - v1)) := by grind
theorem ob324 {v0 : Nat} (h0 : (v0 < (11 : Nat))) : ((1 : Nat) ≤ ((11 : Nat) - v0)) := by refine Nat.le_sub_of_add_le ?_; omega
theorem ob325 {v0 : Nat} : (((11 : Nat) - v0) < (12 : Nat)) := by refine Nat.lt_succ_of_le ?_; exact Nat.sub_le _ _
theorem ob326 {v0 : Nat} (h0 : (v0 < (8 : Nat))) : ((v0 = (0 : Nat)) ∨ ((v0 = (1 : Nat)) ∨ ((v0 = (2 : Nat)) ∨ ((v0 = (3 : Nat)) ∨ ((v0 = (4 : Nat)) ∨ ((v0 = (5 : Nat)) ∨ ((v0 = (6 : Nat)) ∨ (v0 = (7 : Nat))))))))) := by grind
theorem ob327 {v0 : Nat} {v1 : Nat} : (((((4 : Nat) + ((4 : Nat) + v0)) + (4 : Nat)) + v1) = (((12 : Nat) + v0) + v1)) := by grind
theorem ob328 {v0 : Nat} {v1 : Nat} (h0 : (((v0 / (16777216 : Nat)) % (256 : Nat)) ≠ v1)) (h1 : (v1 < (256 : Nat))) : (((((v1 * (16777216 : Nat)) + (((v0 / (65536 : Nat)) % (256 : Nat)) * (65536 : Nat))) + (((v0 / (256 : Nat)) % (256 : Nat)) * (256 : Nat))) + (v0 % (256 : Nat))) ≠ v0) := by omega
theorem ob329 {v0 : Nat} {v1 : Nat} (h0 : (((v0 / (65536 : Nat)) % (256 : Nat)) ≠ v1)) (h1 : (v1 < (256 : Nat))) : (((((((v0 / (16777216 : Nat)) % (256 : Nat)) * (16777216 : Nat)) + (v1 * (65536 : Nat))) + (((v0 / (256 : Nat)) % (256 : Nat)) * (256 : Nat))) + (v0 % (256 : Nat))) ≠ v0) := by omega
theorem ob330 {v0 : Nat} {v1 : Nat} (h0 : (((v0 / (256 : Nat)) % (256 : Nat)) ≠ v1)) (h1 : (v1 < (256 : Nat))) : (((((((v0 / (16777216 : Nat)) % (256 : Nat)) * (16777216 : Nat)) + (((v0 / (65536 : Nat)) % (256 : Nat)) * (65536 : Nat))) + (v1 * (256 : Nat))) + (v0 % (256 : Nat))) ≠ v0) := by grind
theorem ob331 {v0 : Nat} {v1 : Nat} (h0 : ((v0 % (256 : Nat)) ≠ v1)) (h1 : (v1 < (256 : Nat))) : (((((((v0 / (16777216 : Nat)) % (256 : Nat)) * (16777216 : Nat)) + (((v0 / (65536 : Nat)) % (256 : Nat)) * (65536 : Nat))) + (((v0 / (256 : Nat)) % (256 : Nat)) * (256 : Nat))) + v1) ≠ v0) := by grind
theorem ob332 {v0 : Nat} {v1 : Nat} {v2 : Nat} (h0 : (v0 = ((4 : Nat) + v1))) (h1 : (v2 < ((8 : Nat) + v1))) : (v2 < ((4 : Nat) + v0)) := by omega
theorem ob333 {v0 : Nat} {v1 : Nat} {v2 : Nat} (h0 : (v0 = ((4 : Nat) + v1))) (h1 : (v2 < ((8 : Nat) + v1))) : ((v2 - (4 : Nat)) < v0) := by subst h0; omega
theorem ob334 {v0 : Nat} {v1 : Nat} {v2 : Nat} (h0 : (v0 = ((4 : Nat) + v1))) (h1 : (¬ (v2 < ((8 : Nat) + v1)))) : (((4 : Nat) + v0) ≤ v2) := by omega
theorem ob335 {v0 : Nat} {v1 : Nat} {v2 : Nat} (h0 : (v0 = ((4 : Nat) + v1))) (h1 : (v2 < ((12 : Nat) + v1))) : ((v2 - ((4 : Nat) + v0)) < (4 : Nat)) := by subst h0; omega
theorem ob336 {v0 : Nat} {v1 : Nat} (h0 : (v0 = (25 : Nat))) (h1 : (v1 < (33 : Nat))) : ((v1 - (8 : Nat)) < v0) := by subst h0; omega
theorem ob337 {v0 : Nat} (h0 : ((12 : Nat) ≤ v0)) : ((4 : Nat) ≤ (v0 - (8 : Nat))) := by refine Nat.le_sub_of_add_le ?_; exact h0
theorem ob338 {v0 : Nat} (h0 : (v0 < (33 : Nat))) : ((v0 - (8 : Nat)) < (25 : Nat)) := by omega
theorem ob339 {v0 : Nat} {v1 : Nat} (h0 : (v0 = (1 : Nat))) (h1 : ((((1 : Nat) + v1) + v0) ≤ (1 : Nat))) : False := by grind
theorem ob340 {v0 : Nat} {v1 : Nat} (h0 : (v0 = (4 : Nat))) : (((4 : Nat) * (v1 + (1 : Nat))) = (v0 + ((4 : Nat) * v1))) := by grind
theorem ob341 {v0 : Nat} {v1 : Nat} : ((((v0 * ((1 : Nat) + ((4 : Nat) * v1))) + ((1 : Nat) * ((1 : Nat) + ((4 : Nat) * v1)))) + (1 : Nat)) = (((1 : Nat) + ((4 : Nat) * v1)) + ((v0 * ((1 : Nat) + ((4 : Nat) * v1))) + (1 : Nat)))) := by grind
theorem ob342 {v0 : Nat} {v1 : Nat} : (((1 : Nat) + ((4 : Nat) * v0)) ≤ ((v1 * ((1 : Nat) + ((4 : Nat) * v0))) + ((1 : Nat) * ((1 : Nat) + ((4 : Nat) * v0))))) := by simp
theorem ob343 {v0 : Nat} {v1 : Nat} : ((((v0 * ((1 : Nat) + ((4 : Nat) * v1))) + ((1 : Nat) * ((1 : Nat) + ((4 : Nat) * v1)))) - ((1 : Nat) + ((4 : Nat) * v1))) = (v0 * ((1 : Nat) + ((4 : Nat) * v1)))) := by simp
theorem ob344 {v0 : Nat} {v1 : Nat} (h0 : (v0 ≤ ((8 : Nat) + ((1012 : Nat) * (v1 + (1 : Nat)))))) (h1 : (v1 ≤ (7 : Nat))) : (v0 ≤ (1000000 : Nat)) := by grind
theorem ob345 {v0 : Nat} {v1 : Nat} (h0 : (v0 ≤ ((8 : Nat) + ((1012 : Nat) * v1)))) (h1 : (v1 ≤ (20 : Nat))) : (v0 ≤ (100000 : Nat)) := by grind
theorem ob346 {v0 : Nat} {v1 : Nat} (h0 : (v0 ≤ ((8 : Nat) + ((1012 : Nat) * (v1 + (1 : Nat)))))) (h1 : (v1 ≤ (7 : Nat))) : (v0 ≤ (100000 : Nat)) := by grind
theorem ob347 {v0 : Nat} {v1 : Nat} {v2 : Nat} (h0 : (v0 ≤ ((8 : Nat) + ((1012 : Nat) * (v1 + (1 : Nat)))))) (h1 : (v1 ≤ (7 : Nat))) : ((min ((v0 - (1 : Nat)) - v2) v0) ≤ (100000 : Nat)) := by refine Nat.le_trans (Nat.min_le_right _ _) ?_; omega
theorem ob348 {v0 : Nat} (h0 : (v0 ≤ (7 : Nat))) : (((v0 + (1 : Nat)) + (1 : Nat)) ≤ (20 : Nat)) := by refine Nat.lt_succ_of_le ?_; exact Nat.lt_of_le_of_lt h0 (Nat.le_of_ble_eq_true rfl)
theorem ob349 {v0 : Nat} (h0 : (v0 ≤ (7 : Nat))) : (((v0 + (1 : Nat)) - (1 : Nat)) ≤ (20 : Nat)) := by exact Nat.le_trans h0 (Nat.le_add_left _ _)
theorem ob350 {v0 : Nat} {v1 : Nat} (h0 : (v0 ≤ (v1 + (1 : Nat)))) (h1 : (v1 ≤ (7 : Nat))) : (v0 ≤ (20 : Nat)) := by grind
theorem ob351 {v0 : Nat} {v1 : Nat} (h0 : (((v0 = (8 : Nat)) ∧ (v1 = (16 : Nat))) ∨ (((v0 = (9 : Nat)) ∧ (v1 = (2 : Nat))) ∨ (((v0 = (10 : Nat)) ∧ (v1 = (1 : Nat))) ∨ (((v0 = (11 : Nat)) ∧ (v1 = (1 : Nat))) ∨ ((v0 = (12 : Nat)) ∧ (v1 = (1 : Nat)))))))) : (v1 < (256 : Nat)) := by grind
theorem ob352 {v0 : Nat} (h0 : ((1 : Nat) ≤ v0)) (h1 : (v0 ≤ (2 : Nat))) : ((v0 = (1 : Nat)) ∨ (v0 = (2 : Nat))) := by grind
theorem ob353 {v0 : Nat} {v1 : Nat} (h0 : ((v0 * ((1 : Nat) + ((4 : Nat) * v1))) = ((v0 * ((1 : Nat) + ((4 : Nat) * v1))) + ((1 : Nat) * ((1 : Nat) + ((4 : Nat) * v1)))))) : False := by grind
theorem ob354 {v0 : Nat} {v1 : Nat} (h0 : (v0 = (3 : Nat))) (h1 : (v1 ≤ ((8 : Nat) + ((1012 : Nat) * v0)))) : (v1 ≤ (1000000 : Nat)) := by subst h0; exact Nat.le_trans h1 (Nat.le_add_left _ _)
theorem ob355 {v0 : Nat} (h0 : (((v0 : Nat) : Int) < (3 : Int))) : (((1 : Nat) + v0) ≤ (3 : Nat)) := by rw [Nat.add_comm]; exact Int.ofNat_lt.mp h0
theorem ob356 {v0 : Nat} {v1 : Nat} (h0 : (((1 : Int) + ((v0 : Nat) : Int)) = ((v1 : Nat) : Int))) (h1 : (((v0 : Nat) : Int) < (2 : Int))) : (((v1 : Nat) : Int) < ((2 : Int) ^ (40 : Nat))) := by omega
theorem ob357 {v0 : Nat} {v1 : Nat} {v2 : Nat} (h0 : (v0 < v1)) (h1 : (((1 : Int) + ((v2 : Nat) : Int)) = ((v1 : Nat) : Int))) (h2 : (((v2 : Nat) : Int) < (2 : Int))) : (v0 ≤ (16777216 : Nat)) := by grind
theorem ob358 {v0 : Nat} {v1 : Nat} (h0 : (((1 : Int) + ((v0 : Nat) : Int)) = ((v1 : Nat) : Int))) (h1 : (((v0 : Nat) : Int) < (3 : Int))) : (((v1 : Nat) : Int) < ((2 : Int) ^ (40 : Nat))) := by omega
theorem ob359 {v0 : Nat} {v1 : Nat} {v2 : Nat} (h0 : (v0 < v1)) (h1 : (((1 : Int) + ((v2 : Nat) : Int)) = ((v1 : Nat) : Int))) (h2 : (((v2 : Nat) : Int) < (3 : Int))) : (v0 ≤ (16777216 : Nat)) := by grind
theorem ob360 {v0 : Nat} (h0 : (v0 = (4 : Nat))) : (v0 ≤ (16777216 : Nat)) := by refine Nat.le_trans (Nat.le_of_eq h0) ?_; exact Nat.le_add_left _ _
theorem ob361 {v0 : Nat} : ((33 : Nat) ≤ ((8 : Nat) + (((12 : Nat) + (13 : Nat)) + v0))) := by grind
theorem ob362 {v0 : Nat} (h0 : (v0 ≤ (8 : Nat))) : (((0 : Nat) + v0) ≤ (16777216 : Nat)) := by grind
theorem ob363 {v0 : Nat} (h0 : (¬ ((((63 : Nat) : Nat) : Int) < ((v0 : Nat) : Int)))) : (v0 ≤ (63 : Nat)) := by have h := Int.not_lt.mp h0; exact Int.ofNat_le.mp h
end Mine
end

section
open PySem PySem.W PySem.Calls PyProof.Rows
set_option maxRecDepth 100000
set_option linter.unusedVariables false
namespace Mine
/-! B1 -/
theorem allC {α : Type} {P : α → Prop} {a : α} {l : List α} (h : P a) (k : ∀ x ∈ l, P x) : ∀ x ∈ a :: l, P x := List.forall_mem_cons.mpr ⟨h, k⟩
theorem allN {α : Type} {P : α → Prop} : ∀ x ∈ ([] : List α), P x := fun _ h => nomatch h
/-- data as the law sees it -/
inductive D where
  | none
  | bool (b : Bool)
  | int (i : Int)
  | str (x : Str)
  | bytes (ns : List Int)
  | tuple (ds : List D)
  | list (ds : List D)
  | barr (ns : List Int)
  | obj (k : Nat)

/-- what stays: with a mark, whether it may be read as data -/
noncomputable abbrev Cold := Addr → Option (Bool × Obj)
/-- the same object; of a namespace the slots may differ -/
noncomputable def Sim (o o' : Obj) : Prop := o'.cls = o.cls ∧ o'.data = o.data ∧ ((∀ es n, o.data ≠ .dict es n) → o' = o)
theorem Sim.rfl (o : Obj) : Sim o o := ⟨_root_.rfl, _root_.rfl, fun _ => _root_.rfl⟩
noncomputable def Has (h : Heap) (a : Addr) (p : Bool × Obj) : Prop := ∃ o, h.get? a = some o ∧ Sim p.2 o
noncomputable def Cold.In (C : Cold) (h : Heap) : Prop := ∀ a p, C a = some p → Has h a p
noncomputable def Cold.le (C C' : Cold) : Prop := ∀ a p, C a = some p → C' a = some p
theorem Cold.le.refl (C : Cold) : C.le C := fun _ _ e => e
theorem Cold.le.trans {C C' C'' : Cold} (x : C.le C') (y : C'.le C'') : C.le C'' := fun a p e => y a p (x a p e)
theorem Cold.In.mono {C C' : Cold} {h : Heap} (x : C'.In h) (y : C.le C') : C.In h := fun a p e => x a p (y a p e)
theorem Cold.In.keeps {C : Cold} {h h' : Heap} (x : C.In h) (k : ∀ b o, h.get? b = some o → h'.get? b = some o) : C.In h' := fun a p e => let ⟨o, ho, r⟩ := x a p e; ⟨o, k _ _ ho, r⟩
theorem Cold.In.lt {C : Cold} {h : Heap} (x : C.In h) {a : Addr} {p} (e : C a = some p) : a < h.objs.size := let ⟨_, ho, _⟩ := x a p e; Heap.lt_size ho
theorem Cold.In.new {C : Cold} {h : Heap} (x : C.In h) : C h.objs.size = none := by
  cases e : C h.objs.size with
  | none => rfl
  | some p => exact absurd (x.lt e) (Nat.lt_irrefl _)



mutual
inductive Rd (C : Cold) : Value → D → Prop
  | none : Rd C .none .none
  | bool (b : Bool) : Rd C (.bool b) (.bool b)
  | int (i : Int) (t : Tok) : Rd C (.int i t) (.int i)
  | str (x : Str) (t : Tok) : Rd C (.str x t) (.str x)
  | bytes (b : Array UInt8) (t : Tok) : Rd C (.bytes b t) (.bytes (KBw.bInts b))
  | tuple {a : Addr} {o : Obj} {vs : List Value} {n : Nat} {ds : List D} : C a = some (true, o) → o.cls = .type "tuple" → o.data = .seq vs.toArray n → RdAll C vs ds → Rd C (.ref a) (.tuple ds)
  | list {a : Addr} {o : Obj} {vs : List Value} {n : Nat} {ds : List D} : C a = some (true, o) → o.cls = .type "list" → o.dict = Option.none → o.data = .seq vs.toArray n → RdAll C vs ds → Rd C (.ref a) (.list ds)
  | barr {a : Addr} {o : Obj} {b : Array UInt8} {n : Nat} : C a = some (true, o) → o.cls = .type "bytearray" → o.data = .bytearray b n → Rd C (.ref a) (.barr (KBw.bInts b))
inductive RdAll (C : Cold) : List Value → List D → Prop
  | nil : RdAll C [] []
  | cons {v : Value} {vs : List Value} {d : D} {ds : List D} : Rd C v d → RdAll C vs ds → RdAll C (v :: vs) (d :: ds)
end
/-- what a value that reads as a datum is -/
noncomputable def RdI (C : Cold) (v : Value) : D → Prop
  | .none => v = .none
  | .bool b => v = .bool b
  | .int i => ∃ t, v = .int i t
  | .str x => ∃ t, v = .str x t
  | .bytes ns => ∃ b t, v = .bytes b t ∧ ns = KBw.bInts b
  | .tuple ds => ∃ a o vs n, v = .ref a ∧ C a = some (true, o) ∧ o.cls = .type "tuple" ∧ o.data = .seq (List.toArray vs) n ∧ RdAll C vs ds
  | .list ds => ∃ a o vs n, v = .ref a ∧ C a = some (true, o) ∧ o.cls = .type "list" ∧ o.dict = none ∧ o.data = .seq (List.toArray vs) n ∧ RdAll C vs ds
  | .barr ns => ∃ a o b n, v = .ref a ∧ C a = some (true, o) ∧ o.cls = .type "bytearray" ∧ o.data = .bytearray b n ∧ ns = KBw.bInts b
  | .obj _ => False
section
variable {C : Cold} {v : Value}
theorem Rd.inv {d : D} (h : Rd C v d) : RdI C v d := by cases h with
  | none => rfl
  | bool b => rfl
  | int i t => exact ⟨t, rfl⟩
  | str x t => exact ⟨t, rfl⟩
  | bytes b t => exact ⟨b, t, rfl, rfl⟩
  | tuple e c d r => exact ⟨_, _, _, _, rfl, e, c, d, r⟩
  | list e c q d r => exact ⟨_, _, _, _, rfl, e, c, q, d, r⟩
  | barr e c d => exact ⟨_, _, _, _, rfl, e, c, d, rfl⟩
theorem Rd.intI {i : Int} (h : Rd C v (.int i)) : ∃ t, v = .int i t := h.inv
theorem Rd.strI {x : Str} (h : Rd C v (.str x)) : ∃ t, v = .str x t := h.inv
theorem Rd.boolI {b : Bool} (h : Rd C v (.bool b)) : v = .bool b := h.inv
theorem Rd.noneI (h : Rd C v .none) : v = .none := h.inv
theorem Rd.bytesI {ns : List Int} (h : Rd C v (.bytes ns)) : ∃ b t, v = .bytes b t ∧ ns = KBw.bInts b := h.inv
theorem Rd.tupI {ds : List D} (h : Rd C v (.tuple ds)) : ∃ a o vs n, v = .ref a ∧ C a = some (true, o) ∧ o.cls = .type "tuple" ∧ o.data = .seq (List.toArray vs) n ∧ RdAll C vs ds := h.inv
theorem Rd.listI {ds : List D} (h : Rd C v (.list ds)) : ∃ a o vs n, v = .ref a ∧ C a = some (true, o) ∧ o.cls = .type "list" ∧ o.dict = Option.none ∧ o.data = .seq (List.toArray vs) n ∧ RdAll C vs ds := h.inv
theorem Rd.barrI {ns : List Int} (h : Rd C v (.barr ns)) : ∃ a o b n, v = .ref a ∧ C a = some (true, o) ∧ o.cls = .type "bytearray" ∧ o.data = .bytearray b n ∧ ns = KBw.bInts b := h.inv
end
theorem Rd.up {C C' : Cold} (x : ∀ a p, C a = some (true, p) → C' a = some (true, p)) {v : Value} {d : D} (h : Rd C v d) : Rd C' v d :=
  @Rd.rec C (fun v d _ => Rd C' v d) (fun vs ds _ => RdAll C' vs ds) .none .bool .int .str .bytes (fun e c d _ r => .tuple (x _ _ e) c d r) (fun e c q d _ r => .list (x _ _ e) c q d r) (fun e c d => .barr (x _ _ e) c d) .nil (fun _ _ h r => .cons h r) v d h
theorem RdAll.up {C C' : Cold} (x : ∀ a p, C a = some (true, p) → C' a = some (true, p)) {vs : List Value} {ds : List D} (h : RdAll C vs ds) : RdAll C' vs ds :=
  @RdAll.rec C (fun v d _ => Rd C' v d) (fun vs ds _ => RdAll C' vs ds) .none .bool .int .str .bytes (fun e c d _ r => .tuple (x _ _ e) c d r) (fun e c q d _ r => .list (x _ _ e) c q d r) (fun e c d => .barr (x _ _ e) c d) .nil (fun _ _ h r => .cons h r) vs ds h
theorem Rd.mono {C C' : Cold} (x : C.le C') {v : Value} {d : D} (h : Rd C v d) : Rd C' v d := h.up fun a p e => x a _ e
theorem RdAll.mono {C C' : Cold} (x : C.le C') {vs : List Value} {ds : List D} (h : RdAll C vs ds) : RdAll C' vs ds := h.up fun a p e => x a _ e
section
variable {C : Cold} {vs ws : List Value} {ds es : List D} {v : Value} {d : D}
theorem RdAll.length (h : RdAll C vs ds) : vs.length = ds.length := by
  induction vs generalizing ds with
  | nil => cases h; rfl
  | cons v vs ih => cases h with | cons _ r => rw [List.length_cons, List.length_cons, ih r]
theorem RdAll.append (h : RdAll C vs ds) (k : RdAll C ws es) : RdAll C (vs ++ ws) (ds ++ es) := by
  induction vs generalizing ds with
  | nil => cases h; exact k
  | cons v vs ih => cases h with | cons h r => exact .cons h (ih r)
theorem RdAll.one (h : Rd C v d) : RdAll C [v] [d] := .cons h .nil
theorem RdAll.get (h : RdAll C vs ds) {k : Nat} (hd : ds[k]? = some d) : ∃ v, vs[k]? = some v ∧ Rd C v d := by
  induction vs generalizing ds k with
  | nil => cases h; simp at hd
  | cons v vs ih =>
    cases h with
    | cons h r =>
      cases k with
      | zero => simp at hd; subst hd; exact ⟨v, rfl, h⟩
      | succ k => simp at hd; obtain ⟨w, e, q⟩ := ih r hd; exact ⟨w, by simpa using e, q⟩
theorem RdAll.getv (h : RdAll C vs ds) {k : Nat} (hv : vs[k]? = some v) : ∃ d, ds[k]? = some d ∧ Rd C v d := by
  have hk : k < ds.length := by rw [← h.length]; exact (List.getElem?_eq_some_iff.mp hv).1
  obtain ⟨w, e, q⟩ := h.get (List.getElem?_eq_getElem hk)
  rw [hv] at e; cases e
  exact ⟨_, List.getElem?_eq_getElem hk, q⟩
theorem RdAll.take (h : RdAll C vs ds) (k : Nat) : RdAll C (vs.take k) (ds.take k) := by
  induction vs generalizing ds k with
  | nil => cases h; simp; exact .nil
  | cons v vs ih =>
    cases h with
    | cons h r => cases k with
      | zero => exact .nil
      | succ k => exact .cons h (ih r k)
theorem RdAll.drop (h : RdAll C vs ds) (k : Nat) : RdAll C (vs.drop k) (ds.drop k) := by
  induction vs generalizing ds k with
  | nil => cases h; simp; exact .nil
  | cons v vs ih =>
    cases h with
    | cons h r => cases k with
      | zero => exact .cons h r
      | succ k => exact ih r k
theorem RdAll.set (h : RdAll C vs ds) (k : Nat) (q : Rd C v d) : RdAll C (vs.set k v) (ds.set k d) := by
  induction vs generalizing ds k with
  | nil => cases h; simp; exact .nil
  | cons w vs ih =>
    cases h with
    | cons h r => cases k with
      | zero => exact .cons q r
      | succ k => exact .cons h (ih r k)
end
theorem rd_ints {C : Cold} : ∀ {vs : List Value} {ns : List Int}, RdAll C vs (ns.map .int) → IntsAre vs ns
  | [], [], _ => .nil
  | _ :: _, n :: ns, h => by
    cases h with
    | cons h r => cases h with | int _ t => exact .cons n t (rd_ints r)
  | [], _ :: _, h => nomatch h
  | _ :: _, [], h => nomatch h
theorem ints_rd {C : Cold} {vs : List Value} {ns : List Int} (h : IntsAre vs ns) : RdAll C vs (ns.map .int) := by
  induction h with
  | nil => exact .nil
  | cons n t _ ih => exact .cons (.int n t) ih

/-- changed objects: a list, a bytearray, none any more -/
inductive MO where
  | list (ds : List D)
  | barr (ns : List Int)
  | dead
noncomputable def MAt (C : Cold) (h : Heap) (a : Addr) : MO → Prop
  | .list ds => ∃ o vs n, h.get? a = some o ∧ o.cls = .type "list" ∧ o.data = .seq vs n ∧ RdAll C vs.toList ds ∧ o.dict = none
  | .barr ns => ∃ o b, h.get? a = some o ∧ o.cls = .type "bytearray" ∧ o.data = .bytearray b 0 ∧ KBw.bInts b = ns ∧ o.dict = none
  | .dead => True
noncomputable def MO.live : MO → Bool
  | .dead => false
  | _ => true
theorem MAt.keeps {C C' : Cold} {h h' : Heap} {a : Addr} {m : MO} (x : MAt C h a m) (y : C.le C') (k : ∀ o, h.get? a = some o → h'.get? a = some o) : MAt C' h' a m := by
  cases m with
  | list ds => obtain ⟨o, vs, n, e, c, d, r⟩ := x; exact ⟨o, vs, n, k _ e, c, d, r.1.mono y, r.2⟩
  | barr ns => obtain ⟨o, b, e, r⟩ := x; exact ⟨o, b, k _ e, r⟩
  | dead => trivial
theorem MAt.has {C : Cold} {h : Heap} {a : Addr} {m : MO} (x : MAt C h a m) (l : m.live = true) : ∃ o, h.get? a = some o ∧ (∀ vs, o.data ≠ .fields vs) ∧ (∀ es n, o.data ≠ .dict es n) ∧ ∀ v, o.data ≠ .cell v := by
  cases m with
  | list ds => obtain ⟨o, vs, n, e, c, d, r⟩ := x; exact ⟨o, e, (fun _ q => by rw [d] at q; cases q), (fun _ _ q => by rw [d] at q; cases q), (fun _ q => by rw [d] at q; cases q)⟩
  | barr ns => obtain ⟨o, b, e, c, d, r⟩ := x; exact ⟨o, e, (fun _ q => by rw [d] at q; cases q), (fun _ _ q => by rw [d] at q; cases q), (fun _ q => by rw [d] at q; cases q)⟩
  | dead => cases l

/-- the world beneath -/
structure Bs where
  w : World
  s₀ : Shared
  mg : Str → Option Value
  mb : Str → Option Value
noncomputable abbrev pw := PySem.Challenge.pw_on0237_01

structure Base (B : Bs) (s : Shared) : Prop where
  same : s = { B.s₀ with heap := s.heap, toks := s.toks }
  keep : B.s₀.heap.StaysIn s.heap
theorem Base.to {B : Bs} {s : Shared} (b : Base B s) {h' : Heap} {tk : Nat} (k : B.s₀.heap.StaysIn h') : Base B { s with heap := h', toks := tk } := by
  refine ⟨?_, k⟩
  have e := b.same
  obtain ⟨h, g, d, t, os⟩ := s
  simp only [Shared.mk.injEq] at e ⊢
  exact ⟨trivial, e.2.1, e.2.2.1, trivial, e.2.2.2.2⟩

structure Mu (B : Bs) (C : Cold) (ρ : List Addr) (μ : List MO) (h : Heap) : Prop where
  len : ρ.length = μ.length
  at_ : ∀ (k : Nat) (a : Addr) (o : MO), ρ[k]? = some a → μ[k]? = some o → MAt C h a o
  new : ∀ (k : Nat) (a : Addr) (o : MO), ρ[k]? = some a → μ[k]? = some o → o.live = true → C a = none ∧ B.s₀.heap.get? a = none
  inj : ∀ (i j : Nat) (a : Addr) (o o' : MO), ρ[i]? = some a → ρ[j]? = some a → μ[i]? = some o → μ[j]? = some o' → o.live = true → o'.live = true → i = j
theorem Mu.lt {B : Bs} {C : Cold} {ρ : List Addr} {μ : List MO} {h : Heap} (M : Mu B C ρ μ h) {k : Nat} {a : Addr} {o : MO} (e : ρ[k]? = some a) (f : μ[k]? = some o) (l : o.live = true) : a < h.objs.size :=
  let ⟨_, ho, _⟩ := (M.at_ k a o e f).has l; Heap.lt_size ho

noncomputable def VRd (C : Cold) (ρ : List Addr) (v : Value) : D → Prop
  | .obj k => ∃ a, ρ[k]? = some a ∧ v = .ref a
  | d => Rd C v d
noncomputable def D.tree : D → Bool
  | .obj _ => false
  | _ => true
theorem VRd.of {C : Cold} {ρ : List Addr} {v : Value} {d : D} (h : Rd C v d) : VRd C ρ v d := by cases h <;> (simp only [VRd]; constructor <;> assumption)
theorem VRd.rd {C : Cold} {ρ : List Addr} {v : Value} {d : D} (h : VRd C ρ v d) (t : d.tree = true) : Rd C v d := by cases d <;> first | exact h | cases t
theorem VRd.mono {C C' : Cold} {ρ ρ' : List Addr} {v : Value} {d : D} (h : VRd C ρ v d) (x : C.le C') (y : ρ <+: ρ') : VRd C' ρ' v d := by
  cases d with
  | obj k =>
    obtain ⟨a, e, r⟩ := h
    obtain ⟨t, rfl⟩ := y
    exact ⟨a, by rw [List.getElem?_append_left (List.getElem?_eq_some_iff.mp e).1]; exact e, r⟩
  | _ => exact Rd.mono x h

structure Act where
  A : Around
  env : Env
  W : List (Str × Addr)
  fr : Option (List Env)
  n : Nat
  its : List (Addr × Obj) := []
noncomputable abbrev Act.wit (a : Act) (l : List (Addr × Obj)) : Act := { a with its := l }

noncomputable def Bnd (h : Heap) (env : Env) (m : Str → Option Value) (x : Str) (v : Value) : Prop :=
  (env.kindOf x = some .local ∧ m x = some v) ∨ (env.kindOf x = some .cell ∧ ∃ c, env.cells.lookup x = some c ∧ h.IsCell c (some v))

noncomputable abbrev DE := List (Str × D)

noncomputable def OuterOk (B : Bs) (C : Cold) (outer : List Env) : Prop :=
  ∀ env ∈ outer, env.scope.kind ≠ .module ∧ ∃ L p, env.frame = some L ∧ B.s₀.heap.get? L = none ∧ C L = some p ∧ ∃ es n, p.2.data = .dict es n
theorem OuterOk.mono {B : Bs} {C C' : Cold} {outer : List Env} (x : OuterOk B C outer) (y : C.le C') : OuterOk B C' outer := fun env h =>
  ⟨(x env h).1, (x env h).2.imp fun _ q => q.imp fun _ q => ⟨q.1, q.2.1, y _ _ q.2.2.1, q.2.2.2⟩⟩
theorem OuterOk.frames {B : Bs} {C : Cold} {h : Heap} (y : C.In h) : ∀ {outer : List Env}, OuterOk B C outer → h.FunFrames B.s₀.heap outer
  | [], _ => trivial
  | env :: r, x => by
    obtain ⟨k, L, p, f, b, c, n⟩ := x env (.head _)
    obtain ⟨o, ho, _, hd, _⟩ := y _ _ c
    obtain ⟨es, ep, q⟩ := n
    exact ⟨k, ⟨L, o, f, b, ho, fun vs e => by rw [hd, q] at e; cases e⟩, OuterOk.frames y fun e he => x e (.tail _ he)⟩

structure St (B : Bs) (a : Act) (Δ : DE) (C : Cold) (ρ : List Addr) (μ : List MO) (s : Shared) : Prop where
  base : Base B s
  cold : C.In s.heap
  mu : Mu B C ρ μ s.heap
  nL : C a.env.locals = none
  bL : B.s₀.heap.get? a.env.locals = none
  nW : ∀ p ∈ a.W, C p.2 = none ∧ B.s₀.heap.get? p.2 = none ∧ ∃ v, s.heap.IsCell p.2 v
  ns : ∃ m, s.heap.Ns a.env.locals m ∧ ∀ x d, Δ.lookup x = some d → ∃ v, VRd C ρ v d ∧ Bnd s.heap a.env m x v
  outer : ∀ l, a.fr = some l → OuterOk B C l
  its : ∀ p ∈ a.its, C p.1 = none ∧ B.s₀.heap.get? p.1 = none ∧ s.heap.get? p.1 = some p.2 ∧ (∀ es n, p.2.data ≠ .dict es n) ∧ (∀ v, p.2.data ≠ .cell v) ∧
    ∀ (k : Nat) (b : Addr) (o : MO), ρ[k]? = some b → μ[k]? = some o → o.live = true → b ≠ p.1
  itn : (a.its.map (·.1)).Nodup

section
variable {B : Bs} {a : Act} {Δ Δ' : DE} {C C' : Cold} {ρ : List Addr} {μ : List MO} {s : Shared}
theorem St.fresh (S : St B a Δ C ρ μ s) {b : Addr} (h : s.heap.objs.size ≤ b) : C b = none ∧ B.s₀.heap.get? b = none := by
  refine ⟨?_, ?_⟩
  · cases e : C b with
    | none => rfl
    | some p => exact absurd (S.cold.lt e) (Nat.not_lt.mpr h)
  · cases e : B.s₀.heap.get? b with
    | none => rfl
    | some p => exact absurd (Heap.lt_size (S.base.keep _ _ e)) (Nat.not_lt.mpr h)
theorem St.ltL (S : St B a Δ C ρ μ s) : a.env.locals < s.heap.objs.size := let ⟨_, n, _⟩ := S.ns; n.lt

theorem Mu.keeps (M : Mu B C ρ μ s.heap) (y : C.le C') {h' : Heap} (k : ∀ b ∈ ρ, ∀ o, s.heap.get? b = some o → h'.get? b = some o)
    (nw : ∀ (k : Nat) (a : Addr) (o : MO), ρ[k]? = some a → μ[k]? = some o → o.live = true → C' a = none) : Mu B C' ρ μ h' where
  len := M.len
  at_ := fun i b o e f => (M.at_ i b o e f).keeps y (k b (List.mem_of_getElem? e))
  new := fun i b o e f l => ⟨nw i b o e f l, (M.new i b o e f l).2⟩
  inj := M.inj

/-- nothing changed, new objects perhaps, read (or kept) by a larger C -/
theorem St.keeps (S : St B a Δ C ρ μ s) {h' : Heap} {tk : Nat} (k : ∀ b o, s.heap.get? b = some o → h'.get? b = some o)
    (y : C.le C') (ci : C'.In h') (nw : ∀ b, b < s.heap.objs.size → C b = none → C' b = none) : St B a Δ C' ρ μ { s with heap := h', toks := tk } where
  base := S.base.to fun b o e => k b o (S.base.keep b o e)
  cold := ci
  mu := S.mu.keeps y (fun b _ o e => k b o e) fun i b o e f l => nw b (S.mu.lt e f l) (S.mu.new i b o e f l).1
  nL := nw _ S.ltL S.nL
  bL := S.bL
  nW := fun p hp => by
    obtain ⟨x1, x2, v, o, ho, hd⟩ := S.nW p hp
    exact ⟨nw _ (Heap.lt_size ho) x1, x2, v, o, k _ _ ho, hd⟩
  ns := by
    obtain ⟨m, hn, hm⟩ := S.ns
    refine ⟨m, hn.keeps k, fun x d e => ?_⟩
    obtain ⟨v, hv, hb⟩ := hm x d e
    refine ⟨v, hv.mono y List.prefix_rfl, ?_⟩
    rcases hb with hb | ⟨hk, c, hc, o, ho, hd⟩
    · exact .inl hb
    · exact .inr ⟨hk, c, hc, o, k _ _ ho, hd⟩
  outer := fun l e => (S.outer l e).mono y
  its := fun p hp => let ⟨x1, x2, x3, x4⟩ := S.its p hp; ⟨nw _ (Heap.lt_size x3) x1, x2, k _ _ x3, x4⟩
  itn := S.itn
theorem St.keep0 (S : St B a Δ C ρ μ s) {h' : Heap} {tk : Nat} (k : ∀ b o, s.heap.get? b = some o → h'.get? b = some o) : St B a Δ C ρ μ { s with heap := h', toks := tk } :=
  S.keeps k (.refl _) (S.cold.keeps k) fun _ _ e => e
theorem St.tok (S : St B a Δ C ρ μ s) (tk : Nat) : St B a Δ C ρ μ { s with toks := tk } := S.keep0 (h' := s.heap) (fun _ _ e => e)

noncomputable def Cold.put (C : Cold) (b : Addr) (p : Bool × Obj) : Cold := fun x => if x = b then some p else C x
theorem Cold.put_self (C : Cold) (b : Addr) (p) : (C.put b p) b = some p := by simp [Cold.put]
theorem Cold.put_ne (C : Cold) {b x : Addr} (p) (h : x ≠ b) : (C.put b p) x = C x := by simp [Cold.put, h]
theorem Cold.le_put {C : Cold} {b : Addr} {p} (h : C b = none) : C.le (C.put b p) := fun x q e => by
  by_cases hx : x = b
  · subst hx; rw [h] at e; cases e
  · rw [Cold.put_ne _ _ hx]; exact e
/-- an object that is new since the state s joins the cold ones -/
theorem St.put (S : St B a Δ C ρ μ s) {h' : Heap} {tk : Nat} (k : ∀ b o, s.heap.get? b = some o → h'.get? b = some o)
    {b : Addr} {p : Bool × Obj} (hb : s.heap.objs.size ≤ b) (hp : Has h' b p) : C.le (C.put b p) ∧ St B a Δ (C.put b p) ρ μ { s with heap := h', toks := tk } := by
  have f := S.fresh hb
  refine ⟨Cold.le_put f.1, S.keeps k (Cold.le_put f.1) (fun x q e => ?_) fun x hx e => ?_⟩
  · by_cases hxb : x = b
    · subst hxb; rw [Cold.put_self] at e; cases e; exact hp
    · rw [Cold.put_ne _ _ hxb] at e; exact (S.cold.keeps k) x q e
  · rw [Cold.put_ne _ _ (Nat.ne_of_lt (Nat.lt_of_lt_of_le hx hb))]; exact e
/-- a new changed object -/
theorem St.putM (S : St B a Δ C ρ μ s) {h' : Heap} {tk : Nat} (k : ∀ b o, s.heap.get? b = some o → h'.get? b = some o)
    {b : Addr} {m : MO} (hb : s.heap.objs.size ≤ b) (hl : b < h'.objs.size) (hm : MAt C h' b m) : St B a Δ C (ρ ++ [b]) (μ ++ [m]) { s with heap := h', toks := tk } := by
  have f := S.fresh hb
  have T := S.keep0 (tk := tk) k
  have len := S.mu.len
  have gsplit : ∀ {k : Nat} {x : Addr}, (ρ ++ [b])[k]? = some x → (ρ[k]? = some x ∧ k < ρ.length) ∨ (k = ρ.length ∧ x = b) := by
    intro k x e
    by_cases hk : k < ρ.length
    · rw [List.getElem?_append_left hk] at e; exact .inl ⟨e, hk⟩
    · have hlt := (List.getElem?_eq_some_iff.mp e).1
      rw [List.length_append, List.length_singleton] at hlt
      have : k = ρ.length := by (exact ob0 hlt hk)
      subst this
      simp at e; exact .inr ⟨rfl, e.symm⟩
  have msplit : ∀ {k : Nat} {x : MO}, (μ ++ [m])[k]? = some x → (k < ρ.length → μ[k]? = some x) ∧ (k = ρ.length → x = m) := by
    intro k x e
    refine ⟨fun hk => ?_, fun hk => ?_⟩
    · rw [List.getElem?_append_left (by rw [← len]; exact hk)] at e; exact e
    · subst hk; rw [len] at e; simp at e; exact e.symm
  exact { base := T.base, cold := T.cold, nL := T.nL, bL := T.bL, nW := T.nW, outer := T.outer, itn := S.itn
          its := fun p hp => by
            obtain ⟨x1, x2, x3, x4, x5, x6⟩ := T.its p hp
            refine ⟨x1, x2, x3, x4, x5, fun i x o e q l => ?_⟩
            rcases gsplit e with ⟨e1, hk⟩ | ⟨rfl, rfl⟩
            · exact x6 i x o e1 ((msplit q).1 hk) l
            · exact Nat.ne_of_gt (Nat.lt_of_lt_of_le (Heap.lt_size (S.its p hp).2.2.1) hb)
          mu := { len := by simp [len]
                  at_ := fun i x o e q => by
                    rcases gsplit e with ⟨e1, hk⟩ | ⟨rfl, rfl⟩
                    · exact T.mu.at_ i x o e1 ((msplit q).1 hk)
                    · rw [(msplit q).2 rfl]; exact hm
                  new := fun i x o e q l => by
                    rcases gsplit e with ⟨e1, hk⟩ | ⟨rfl, rfl⟩
                    · exact T.mu.new i x o e1 ((msplit q).1 hk) l
                    · exact f
                  inj := fun i j x o o' e q f9 g9 l l' => by
                    rcases gsplit e with ⟨e1, hk⟩ | ⟨rfl, rfl⟩ <;> rcases gsplit q with ⟨q1, hk'⟩ | ⟨rfl, hx⟩
                    · exact T.mu.inj i j x o o' e1 q1 ((msplit f9).1 hk) ((msplit g9).1 hk') l l'
                    · subst hx; exact absurd (S.mu.lt e1 ((msplit f9).1 hk) l) (Nat.not_lt.mpr hb)
                    · exact absurd (S.mu.lt q1 ((msplit g9).1 hk') l') (Nat.not_lt.mpr hb)
                    · rfl }
          ns := by
            obtain ⟨mm, hn, q⟩ := T.ns
            refine ⟨mm, hn, fun x d e => ?_⟩
            obtain ⟨v, hv, hb'⟩ := q x d e
            exact ⟨v, hv.mono (.refl _) (List.prefix_append _ _), hb'⟩ }
theorem St.weak (S : St B a Δ C ρ μ s) (h : ∀ x d, Δ'.lookup x = some d → Δ.lookup x = some d) : St B a Δ' C ρ μ s :=
  { S with ns := let ⟨m, hn, q⟩ := S.ns; ⟨m, hn, fun x d e => q x d (h x d e)⟩ }
end
end Mine
end

section
open PySem PySem.W PySem.Calls PyProof.Rows
open Builtin Builtin.ObjectAttr
set_option maxRecDepth 100000
set_option linter.unusedVariables false
namespace Mine
/-! E1 -/
noncomputable def exMro : List Value := [.type "Exception", .type "BaseException", .type "object"]
/-- the own class C beneath the own class M, which has the maker fI -/
structure TwoCls (h : Heap) (C N M fI : Addr) (cM : Value) (ddM : Option Addr) (cdM : ClassData) (slM : Array (Option Value)) (mN mM : Str → Option Value)
    (nm q : Str) (bs : List Value) (sn : List Str) (sub : List Value) (ab : Bool) (col : Option Bool) (dd : Option Addr) (k0 k1 k2 k3 k5 : Option Value) : Prop where
  hC : h.get? C = some (excClassObj nm q C N bs (.ref M :: exMro) true sn sub ab col dd k0 k1 k2 k3 k5 "Exception.__new__")
  hM : h.get? M = some { cls := cM, dict := ddM, data := .cls cdM, slots := slM }
  nsC : h.Ns N mN
  nsM : h.Ns cdM.ns mM
  noInit : mN "__init__" = none
  init : mM "__init__" = some (.ref fI)
  noSet : mN "__setattr__" = none ∧ mM "__setattr__" = none
  noMsg : mN "message" = none ∧ mM "message" = none
  CM : C ≠ M

section
variable {C N M fI : Addr} {cM : Value} {ddM : Option Addr} {cdM : ClassData} {slM : Array (Option Value)} {mN mM : Str → Option Value} {nm q : Str} {bs : List Value} {sn : List Str} {sub : List Value} {ab : Bool} {col : Option Bool} {dd : Option Addr} {k0 k1 k2 k3 k5 : Option Value}
variable {h h' : Heap} {g : Array GenState} {d : Drawn} {t : Nat} {os : OsState} {Md : Model} {A : Around} {E : Value → Shared → Prop} {w : World}

theorem TwoCls.keeps (T : TwoCls h C N M fI cM ddM cdM slM mN mM nm q bs sn sub ab col dd k0 k1 k2 k3 k5) (k : ∀ b o, h.get? b = some o → h'.get? b = some o) : TwoCls h' C N M fI cM ddM cdM slM mN mM nm q bs sn sub ab col dd k0 k1 k2 k3 k5 :=
  { T with hC := k _ _ T.hC, hM := k _ _ T.hM, nsC := T.nsC.keeps k, nsM := T.nsM.keeps k }

theorem two_lookup {name : Str} {y : Option Value} {Q : Option Value → Shared → Prop} (T : TwoCls h C N M fI cM ddM cdM slM mN mM nm q bs sn sub ab col dd k0 k1 k2 k3 k5) (hB : typeLookup (.type "Exception") name = pure y)
    (hq : Q (match mN name with | some v => some v | none => match mM name with | some v => some v | none => y) ⟨h, g, d, t, os⟩) : wpAny Md A (typeLookup (.ref C) name) Q E ⟨h, g, d, t, os⟩ := by
  have hrest : lookupAlong exMro name = pure y := by
    have := PySem.F.excBase_Exception.mroIs
    rw [typeLookup_eq, this] at hB; exact hB
  rw [typeLookup_eq]
  refine wpAny_bind (wpAny_mroOf_exc T.hC ?_)
  rw [lookupAlong_cons]
  refine wpAny_bind (wpAny_classOwn_exc T.hC T.nsC ?_)
  cases hv : mN name with
  | some v => rw [hv] at hq; exact wpAny_pure hq
  | none =>
    rw [hv] at hq
    dsimp only
    rw [lookupAlong_cons]
    refine wpAny_bind (wpAny_classOwn_cls T.hM T.nsM ?_)
    cases hw : mM name with
    | some v => rw [hw] at hq; exact wpAny_pure hq
    | none => rw [hw] at hq; dsimp only; rw [hrest]; exact wpAny_pure hq

theorem two_has {X : String} {b : Bool} (hb : exMro.contains (.type X) = b) : (Value.ref C :: .ref M :: exMro).contains (.type X) = b := by
  rw [List.contains_cons, List.contains_cons, hb]; rfl

theorem two_check_new {rest : List Value} {Q : Unit → Shared → Prop} (T : TwoCls h C N M fI cM ddM cdM slM mN mM nm q bs sn sub ab col dd k0 k1 k2 k3 k5) (hq : Q () ⟨h, g, d, t, os⟩) :
    wpAny Md A (checkBuiltinCall "Exception.__new__" ⟨.ref C :: rest, []⟩) Q E ⟨h, g, d, t, os⟩ := by
  have F := PySem.F.excBase_Exception
  have hC := T.hC
  have hcont : (Value.ref C :: .ref M :: exMro).contains (.type "Exception") = true := two_has F.hasB
  have hstar := F.noStar
  simp only [checkBuiltinCall, F.newKind, F.newSplit, F.newRow]
  repeat (first | refine wpAny_loadPart_at hC ?_ | (refine wpAny_isSubtype_exc hC ?_; rw [hcont]) | refine wpAny_staticBase_exc hC ?_ | refine wpAny_madeBy_exc hC ?_ | simp only [bne_self_eq_false, Bool.false_eq_true, if_false] | wp_step)
  exact hq

theorem two_new {rest : List Value} {R : Result → Shared → Prop} (T : TwoCls h C N M fI cM ddM cdM slM mN mM nm q bs sn sub ab col dd k0 k1 k2 k3 k5)
    (hq : R (.ok (.ret (.ref (h.objs.size + 1)))) ⟨(h.push { cls := .type "tuple", data := .seq rest.toArray }).push
      { cls := .ref C, data := .fields #[.ref h.objs.size, .none, .none, .none, .bool false, .none] }, g, d, t, os⟩) (hrest : rest.length ≤ sizeLine) :
    codeAny (model pw w) A (.builtin "Exception.__new__" ⟨.ref C :: rest, []⟩) R ⟨h, g, d, t, os⟩ := by
  have F := PySem.F.excBase_Exception
  have hC := T.hC
  have hends := F.ends
  have hcB : (Value.ref C :: .ref M :: exMro).contains (.type "Exception") = true := two_has F.hasB
  have hcA : (Value.ref C :: .ref M :: exMro).contains (.type "AttributeError") = false := two_has F.noAttr
  have hcN : (Value.ref C :: .ref M :: exMro).contains (.type "NameError") = false := two_has F.noName
  refine codeAny_builtinAt F.entry ?_
  unfold Builtin.«BaseException.__new__»
  refine PySem.wpAt_bind ?_
  show PySem.wpAt _ _ _ (stack >>= _) _ _ _
  refine PySem.wpAt_bind (PySem.wpAt_stack fun p below => PySem.wpAt_of_wpAny ?_)
  wp_walk
  refine PySem.wpAt_of_wpAny ?_
  rw [F.owner]
  repeat (first | with_reducible refine wpAny_madeHere_exc F.canon hC ?_ | with_reducible refine wpAny_loadPart_at hC ?_ | (with_reducible refine wpAny_isSubtype_exc hC ?_; first | rw [hcB] | rw [hcA] | rw [hcN]) | wp_step)
  show R _ _
  rw [Heap.size_push]
  exact hq

theorem two_typecall {rest : List Value} {oI : Obj} {Q : Fin → Shared → Prop} (T : TwoCls h C N M fI cM ddM cdM slM mN mM nm q bs sn sub ab col dd k0 k1 k2 k3 k5)
    (hfI : h.get? fI = some oI) (hfc : oI.cls = .type "function")
    (hq : ∀ h' e, Heap.MadeExcOf h h' e (.ref C) rest →
      wpAny (model pw w) A (call (.ref fI) (.ref e :: rest)) (fun r s' => r = .none ∧ Q (.done (.ret (.ref e))) s') E ⟨h', g, d, t, os⟩) (hrest : rest.length ≤ sizeLine) :
    wpAny (model pw w) A (Builtin.«type.__call__» ⟨.ref C :: rest, []⟩) Q E ⟨h, g, d, t, os⟩ := by
  have F := PySem.F.excBase_Exception
  have hC := T.hC
  repeat (first | with_reducible refine wpAny_loadPart_at hC ?_ | with_reducible refine wpAny_madeBy_exc hC ?_ | wp_step)
  refine codeAny_call_builtin_code (Code.quiet_builtin _ F.quiet) (two_check_new T ?_)
  refine two_new T ?_ hrest
  show wpAny _ _ _ _ _ _
  have T₁ := T.keeps (h' := (h.push { cls := .type "tuple", data := .seq rest.toArray }).push { cls := .ref C, data := .fields #[.ref h.objs.size, .none, .none, .none, .bool false, .none] })
    fun b o e => Heap.get?_push_of_some _ (Heap.get?_push_of_some _ e)
  have hC₁ := T₁.hC
  have hfI₁ := Heap.get?_push_of_some { cls := .ref C, data := .fields #[.ref h.objs.size, .none, .none, .none, .bool false, .none] }
    (Heap.get?_push_of_some { cls := .type "tuple", data := .seq rest.toArray } hfI)
  have hget : ((h.push { cls := .type "tuple", data := .seq rest.toArray }).push
      { cls := .ref C, data := .fields #[.ref h.objs.size, .none, .none, .none, .bool false, .none] }).get? (h.objs.size + 1) = some
      { cls := .ref C, data := .fields #[.ref h.objs.size, .none, .none, .none, .bool false, .none] } := by heap_get
  have hcC : (Value.ref C :: .ref M :: exMro).contains (.ref C) = true := by simp
  unfold isInstance
  repeat (first | with_reducible refine wpAny_loadPart_at hget ?_ | (with_reducible refine wpAny_isSubtype_exc hC₁ ?_; rw [hcC]) | wp_step)
  show wpAny _ _ (typeLookup (.ref C) _) _ _ _
  refine two_lookup T₁ F.init.lookup ?_
  rw [T.noInit, T.init]
  refine wpAny_holding (wpAny_bind ?_)
  unfold bindSpecial
  refine wpAny_bind (wpAny_typeOf (T := "function") ⟨_, hfI₁, hfc⟩ ?_)
  rw [if_pos (by decide)]
  refine wpAny_pure (wpAny_bind (wpAny_mono (hq _ (h.objs.size + 1) ⟨fun b o hb => Heap.get?_push_of_some _ (Heap.get?_push_of_some _ hb), Heap.get?_none_of_le (Nat.le_succ _), h.objs.size, hget, Heap.get?_none_of_le (Nat.le_refl _), ?_⟩) (fun r s' hr => ?_) fun _ _ x => x))
  · exact Heap.get?_push_of_some _ (Heap.get?_push_at rfl rfl)
  · obtain ⟨rfl, hQ⟩ := hr
    wp_walk
    exact hQ

theorem two_call {rest : List Value} {oI : Obj} {Q : Value → Shared → Prop} (T : TwoCls h C N M fI cM ddM cdM slM mN mM nm q bs sn sub ab col dd k0 k1 k2 k3 k5)
    (hfI : h.get? fI = some oI) (hfc : oI.cls = .type "function")
    (hq : ∀ h' e, Heap.MadeExcOf h h' e (.ref C) rest →
      wpAny (model pw w) (A.under (.builtin "type.__call__" ⟨.ref C :: rest, []⟩)) (call (.ref fI) (.ref e :: rest)) (fun r s' => r = .none ∧ Q (.ref e) s') E ⟨h', g, d, t, os⟩) (hrest : rest.length ≤ sizeLine) :
    wpAny (model pw w) A (call (.ref C) rest) Q E ⟨h, g, d, t, os⟩ := by
  have hC := T.hC
  have f1 := tc_lookup
  have f2 := tc_bind (.ref C)
  have hT : (⟨h, g, d, t, os⟩ : Shared).TypeIs (.ref C) "type" := ⟨_, hC, rfl⟩
  refine wpAny_call (codeAny_of_tree ?_)
  show wpAny _ _ (callAny (.ref C) _) _ _ _
  repeat (any_goals (first | assumption | with_reducible refine wpAny_loadPart_at hC ?_ | wp_step))
  refine ⟨rfl, ?_⟩
  refine codeAny_call_builtin_at (Code.quiet_builtin _ (by decide +kernel)) entry_typeCall (wpAny_check_type_call_sub hC (two_typecall T hfI hfc (fun h' e hm => ?_) hrest))
  exact hq h' e hm

/-- the message is kept in the new exception's dict -/
theorem two_setattr {e : Addr} {oe : Obj} {v : Value} {Q : Unit → Shared → Prop} (T : TwoCls h C N M fI cM ddM cdM slM mN mM nm q bs sn sub ab col dd k0 k1 k2 k3 k5) (he : h.get? e = some oe) (hc : oe.cls = .ref C) (hdn : oe.dict = none) (hd : ∀ c, oe.data ≠ .cls c)
    (hq : ∀ h' tk' oe', h'.get? e = some oe' → oe'.cls = oe.cls → oe'.data = oe.data → (∀ b o, b ≠ e → h.get? b = some o → h'.get? b = some o) → Q () ⟨h', g, d, tk', os⟩) :
    wpAny (model pw w) A (setAttr (.ref e) "message" v) Q E ⟨h, g, d, t, os⟩ := by
  have SF := PySem.F.store_Exception
  have hC := T.hC
  have f3 := SF.slot.bind (.ref e)
  have hB : typeLookup (.type "Exception") "message" = pure none := by rw [typeLookup_type, builtinLookup_eq_fast]; kernel_rfl
  have hpass := SF.passes (.ref e)
  have hcB : (Value.ref C :: .ref M :: exMro).contains (.type "object") = true := two_has SF.hasOwner
  have chk : ∀ {M : Model} {A : Around} {E : Value → Shared → Prop} {tk : Tok} {t' : Nat} {Q : Unit → Shared → Prop}, Q () ⟨h, g, d, t', os⟩ → wpAny M A (checkBuiltinCall "object.__setattr__" ⟨[.ref e, .str "message" tk, v], []⟩) Q E ⟨h, g, d, t', os⟩ := by
    intro M A E tk t' Q hq
    have ha := SF.args (.ref e) (.str "message" tk) v
    simp only [checkBuiltinCall, SF.kind, SF.split]
    refine wpAny_bind ?_
    unfold isInstance
    repeat (first | (with_reducible refine wpAny_loadPart_at he ?_; rw [hc]) | (with_reducible refine wpAny_isSubtype_exc hC ?_; rw [hcB]) | wp_step)
    exact hq
  have ent : ∀ {A : Around} {E : Value → Shared → Prop} {tk : Tok} {t' : Nat} {Q : Fin → Shared → Prop}, (∀ h' tk' oe', h'.get? e = some oe' → oe'.cls = oe.cls → oe'.data = oe.data → (∀ b o, b ≠ e → h.get? b = some o → h'.get? b = some o) → Q (.done (.ret .none)) ⟨h', g, d, tk', os⟩) →
      wpAny (model pw w) A (Builtin.«object.__setattr__» ⟨[.ref e, .str "message" tk, v], []⟩) Q E ⟨h, g, d, t', os⟩ := by
    intro A E tk t' Q hq
    unfold Builtin.«object.__setattr__»
    repeat (first | rw [refuse_eq] | (rw [refuseLoop_ref, refuseLoop_ref, show exMro = [.type "Exception", .type "BaseException", .type "object"] from rfl, hpass]) | (with_reducible refine wpAny_loadPart_at he ?_; rw [hc]) | with_reducible refine wpAny_mroOf_exc hC ?_ | (with_reducible refine two_lookup T hB ?_; rw [T.noMsg.1, T.noMsg.2]) | wp_step)
    rw [hdn, if_neg (by simp [typeHasDict])]
    split
    · rename_i hcd
      cases hcd
    split
    · rename_i c hcd
      exact absurd hcd (hd c)
    · have hx₁ : (h.push { cls := .type "dict", data := .dict #[] }).get? e = some oe := Heap.get?_push_of_some _ he
      have hxs : e ≠ h.objs.size := Nat.ne_of_lt (Heap.lt_size he)
      refine wpAny_bind (wpAny_alloc' ?_)
      refine wpAny_bind (wpAny_update' hx₁ ?_)
      refine wpAny_pure ?_
      have hgd : ((h.push { cls := .type "dict", data := .dict #[] }).update e fun o => { cls := o.cls, dict := some h.objs.size, data := o.data, slots := o.slots }).get? h.objs.size
          = some { cls := .type "dict", data := .dict #[] } :=
        (Heap.get?_update_ne _ _ _ _ hxs.symm).trans (Heap.get?_push_at rfl rfl)
      have hnd : ((h.push { cls := .type "dict", data := .dict #[] }).update e fun o => { cls := o.cls, dict := some h.objs.size, data := o.data, slots := o.slots }).Ns h.objs.size (fun _ => none) :=
        ⟨_, #[], _, hgd, rfl, fun e he => absurd he (by simp), fun _ => rfl⟩
      show wpAny _ _ (storeInDict h.objs.size (.str "message" tk) "message" v) _ _ _
      unfold storeInDict newKeyGuard
      refine wpAny_bind (wpAny_pure (wpAny_bind (wpAny_nsSet1 (Heap.Ns1.of_empty hnd) fun h' hn' hs => ?_)))
      obtain ⟨oD, esD, epD, hoD, hdD, hcD⟩ := hn'.count (Within.cons "message" v Within.nil)
      refine wpAny_bind (wpAny_lookBehind hoD (by rw [hdD]; exact pastItsLine_dict (Nat.le_trans hcD (by rw [List.length_cons, List.length_nil, sizeLine_eq]; (exact Nat.succ_pos _)))) ?_)
      wp_walk
      refine hq h' _ { cls := oe.cls, dict := some h.objs.size, data := oe.data, slots := oe.slots } ((hs.2 e hxs).trans (Heap.get?_update_self _ hx₁ ?_)) rfl rfl fun b ob hbx hb => ?_
      · have hfr := (Heap.get?_some_iff.mp he).2
        obtain ⟨oc, od, odt, osl⟩ := oe
        cases odt <;> first | rfl | exact hfr
      · exact (hs.2 b (Nat.ne_of_lt (Heap.lt_size hb))).trans ((Heap.get?_update_ne _ _ _ _ hbx).trans (Heap.get?_push_of_some _ hb))
  unfold setAttr callSpecial? specialOf
  repeat (any_goals (first | assumption | (with_reducible refine wpAny_loadPart_at he ?_; rw [hc]) | (with_reducible refine two_lookup T SF.slot.lookup ?_; rw [T.noSet.1, T.noSet.2]) | wp_step))
  refine codeAny_call_builtin SF.slot.plain SF.entry (chk (ent fun h' tk' oe' x1 x2 x3 x4 => ?_))
  repeat (any_goals (first | assumption | wp_step))
  exact hq h' tk' oe' x1 x2 x3 x4
end
end Mine
end

section
open PySem PySem.W PySem.Calls PyProof.Rows
set_option maxRecDepth 100000
set_option linter.unusedVariables false
namespace Mine
/-! E2 -/
noncomputable def fnOf0 : Option Stmt → Option (Arguments × List Stmt × Scope)
  | some (.FunctionDef _ p b _ _ _ s _ _ _) => some (p, b, s)
  | _ => none
noncomputable def bodyOfC : Option Stmt → List Stmt
  | some (.ClassDef _ _ _ b _ _ _ _ _ _ _) => b
  | _ => []
noncomputable def fxI : Arguments × List Stmt × Scope := (fnOf0 ((bodyOfC pw.main.body[1]?)[0]?)).getD default

/-- a new exception, its maker run -/
structure MadeX (h h' : Heap) (e : Addr) (cls : Value) : Prop where
  keeps : ∀ b o, h.get? b = some o → h'.get? b = some o
  new : h.get? e = none
  there : ∃ t oe, h'.get? e = some oe ∧ oe.cls = cls ∧ oe.data = .fields #[.ref t, .none, .none, .none, .bool false, .none]

structure InitOk (h : Heap) (fI : Addr) : Prop where
  out : ∃ o fd, h.get? fI = some o ∧ o.cls = .type "function" ∧ o.data = .func fd ∧ h.CodeRec fd.code fd.qualname ∧
    fd.params = fxI.1 ∧ fd.body = .stmts fxI.2.1 ∧ fd.scope = fxI.2.2 ∧ fd.globals = mainGlobals ∧ fd.closure = [] ∧ fd.builtins = builtinsNs ∧ fd.kwdefaults = .none ∧ fd.defaults = .none
theorem InitOk.keeps {h h' : Heap} {fI : Addr} (x : InitOk h fI) (k : ∀ b o, h.get? b = some o → h'.get? b = some o) : InitOk h' fI :=
  let ⟨o, fd, h1, h2, h3, h4, r⟩ := x.out; ⟨o, fd, k _ _ h1, h2, h3, h4.keeps k, r⟩

section
variable {C N M fI : Addr} {cM : Value} {ddM : Option Addr} {cdM : ClassData} {slM : Array (Option Value)} {mN mM : Str → Option Value} {nm q : Str} {bs : List Value} {sn : List Str} {sub : List Value} {ab : Bool} {col : Option Bool} {dd : Option Addr} {k0 k1 k2 k3 k5 : Option Value}
variable {h h' : Heap} {g : Array GenState} {d : Drawn} {t : Nat} {os : OsState} {Md : Model} {A : Around} {E : Value → Shared → Prop} {w : World}

theorem init_call {e : Addr} {oe : Obj} {v : Value} {Q : Value → Shared → Prop} (T : TwoCls h C N M fI cM ddM cdM slM mN mM nm q bs sn sub ab col dd k0 k1 k2 k3 k5) (I : InitOk h fI) (lim : h.NoLimit) (hroom : A.depth < recursionLimit)
    (he : h.get? e = some oe) (hc : oe.cls = .ref C) (hdn : oe.dict = none) (hd : ∀ c, oe.data ≠ .cls c)
    (hq : ∀ h' tk' oe', h'.get? e = some oe' → oe'.cls = oe.cls → oe'.data = oe.data → (∀ b o, b ≠ e → h.get? b = some o → h'.get? b = some o) → Q .none ⟨h', g, d, tk', os⟩) :
    wpAny (model pw w) A (call (.ref fI) [.ref e, v]) Q E ⟨h, g, d, t, os⟩ := by
  obtain ⟨o, fd, ho, hfc, hdd, hcd, hp, hb, hs, hg, hclo, hbu, hkd, hdf⟩ := I.out
  refine wpAny_call ?_
  have hbind : bindArgs fd ⟨[.ref e, v], []⟩ = pure [(("self" : Str), Value.ref e), (("message" : Str), v)] := by obtain ⟨⟩ := fd; subst hp hkd hdf; rfl
  refine codeAny_call_function (body := fxI.2.1) hroom ho hdd (by rw [hs]; rfl) (by rw [hs]; rfl) hb hcd ?_
  refine wpAny_of_eq hbind ?_
  rw [hs, hg, hclo, hbu]
  refine wpAny_newFunctionEnv (by decide) (by intro x hx; simp only [List.mem_cons, List.not_mem_nil, or_false] at hx; rcases hx with rfl | rfl <;> rfl) (fun h₁ hns hsb => ?_) rfl
  have k1 : ∀ b o, h.get? b = some o → h₁.get? b = some o := fun b o e => hsb.extBut b o (Nat.ne_of_lt (Heap.lt_size e)) (Heap.get?_push_of_some _ e)
  refine ⟨lim.keeps k1, codeAny_func ?_⟩
  show wpAny _ _ (execs fxI.2.1 _) _ _ _
  have T₁ := T.keeps k1
  refine wpAny_execs_cons (plainObj_wpAny_Assign_Attribute (wpAny_Name (wpAny_loadName_local (v := v) rfl rfl hns rfl (wpAny_Name (wpAny_loadName_local (v := .ref e) rfl rfl hns rfl (two_setattr T₁ (k1 _ _ he) hc hdn hd fun h' tk' oe' x1 x2 x3 x4 => ?_)) rfl)) rfl) rfl)
  refine wpAny_execs_nil ?_
  exact hq h' tk' oe' x1 x2 x3 fun b o hb hbo => x4 b o hb (k1 _ _ hbo)

/-- SheetFault(v) makes an exception -/
theorem make_call {v : Value} {Q : Value → Shared → Prop} (T : TwoCls h C N M fI cM ddM cdM slM mN mM nm q bs sn sub ab col dd k0 k1 k2 k3 k5) (I : InitOk h fI) (lim : h.NoLimit) (hroom : A.depth + 2 < recursionLimit)
    (hq : ∀ h' e tk', MadeX h h' e (.ref C) → Q (.ref e) ⟨h', g, d, tk', os⟩) : wpAny (model pw w) A (call (.ref C) [v]) Q E ⟨h, g, d, t, os⟩ := by
  obtain ⟨o, fd, ho, hfc, _⟩ := I.out
  refine two_call T ho hfc (fun h₁ e hm => ?_) (by show 1 ≤ sizeLine; decide)
  obtain ⟨tt, he, htn, htt⟩ := hm.there
  refine init_call (T.keeps hm.keeps) (I.keeps hm.keeps) (lim.keeps hm.keeps) ?_ he rfl rfl (fun c q => by cases q) fun h' tk' oe' x1 x2 x3 x4 => ⟨rfl, hq h' e tk' ⟨fun b o hb => x4 b o (fun q => ?_) (hm.keeps b o hb), hm.new, tt, oe', x1, x2, x3⟩⟩
  · exact Nat.lt_of_le_of_lt (Nat.add_le_add_left (k := A.depth) (m := 2) (Nat.le_of_ble_eq_true (by kernel_rfl))) hroom
  · rw [q, hm.new] at hb; cases hb

theorem raiseStmt_two {env : Env} {s : Shared} {x : Sem Value} {Q : Flow → Shared → Prop} (hh : A.handled = none)
    (h : wpAny Md A x (fun v s₁ => ∃ e oe t, v = .ref e ∧ s₁.heap.get? C = some (excClassObj nm q C N bs (.ref M :: exMro) true sn sub ab col dd k0 k1 k2 k3 k5 "Exception.__new__") ∧
      s₁.heap.get? e = some oe ∧ oe.cls = .ref C ∧ oe.data = .fields #[.ref t, .none, .none, .none, .bool false, .none] ∧ E (.ref e) s₁) E s) :
    wpAny Md A (raiseStmt env (some x) none) Q E s := by
  have hcB : (Value.ref C :: .ref M :: exMro).contains (.type "BaseException") = true := two_has PySem.F.excBase_Exception.hasBase
  unfold raiseStmt
  refine wpAny_bind (wpAny_mono h (fun v s₁ h₁ => ?_) fun _ _ x => x)
  obtain ⟨e, oe, t, rfl, hC, he, hc, hd, hE⟩ := h₁
  obtain ⟨hp, g, d, tk, os⟩ := s₁
  obtain ⟨cl, dc, dt, sl⟩ := oe
  simp only at hc hd
  subst hc hd
  repeat (first | with_reducible refine wpAny_loadPart_at he ?_ | with_reducible refine wpAny_loadPart_at hC ?_ | (with_reducible refine wpAny_isSubtype_exc hC ?_; rw [hcB]) | wp_step)
  exact wpAny_raiseNew_none hh hE

theorem raise_two {env : Env} {s : Shared} {x : Str} {np cpos pos : Pos} {arg : Expr} {Q : Flow → Shared → Prop} (hh : A.handled = none) (hroom : A.depth + 2 < recursionLimit) (hplain : starEach [arg] env = [(false, eval arg env)])
    (h : wpAny (model pw w) A (eval (.Name x np) env) (fun f s₁ => f = .ref C ∧ wpAny (model pw w) A (eval arg env) (fun v s₂ => TwoCls s₂.heap C N M fI cM ddM cdM slM mN mM nm q bs sn sub ab col dd k0 k1 k2 k3 k5 ∧ InitOk s₂.heap fI ∧ s₂.heap.NoLimit ∧
      ∀ h' e tk', MadeX s₂.heap h' e (.ref C) → E (.ref e) { s₂ with heap := h', toks := tk' }) E s₁) E s) :
    wpAny (model pw w) A (exec (.Raise (some (.Call (.Name x np) [arg] [] cpos)) none pos) env) Q E s := by
  rw [arm_exec_Raise]
  have main : wpAny (model pw w) A (eval (.Call (.Name x np) [arg] [] cpos) env) (fun v s₁ => ∃ e oe t, v = .ref e ∧ s₁.heap.get? C = some (excClassObj nm q C N bs (.ref M :: exMro) true sn sub ab col dd k0 k1 k2 k3 k5 "Exception.__new__") ∧
      s₁.heap.get? e = some oe ∧ oe.cls = .ref C ∧ oe.data = .fields #[.ref t, .none, .none, .none, .bool false, .none] ∧ E (.ref e) s₁) E s := by
    refine wpAny_Call_ofName (wpAny_mono h (fun f s₁ h₁ => ?_) fun _ _ x => x)
    obtain ⟨rfl, h₁⟩ := h₁
    rw [hplain]
    unfold callWith
    refine wpAny_bind (wpAny_holding (Calls.evalArgs_plain (Calls.spliced_cons (wpAny_mono h₁ (fun v s₂ h₂ => Calls.spliced_nil ?_) fun _ _ x => x))))
    refine wpAny_bind (wpAny_standAt ?_)
    obtain ⟨T, I, lim, h₂⟩ := h₂
    obtain ⟨hp, g, d, tk, os⟩ := s₂
    dsimp only
    rw [show ((backTo cpos [(false, eval arg env)]).any (·.1) || (backToKw cpos (keywordEach [] env)).any (·.1.isNone)) = false from rfl]
    refine wpAny_bind (wpAny_keeperOf_exc T.hC ?_)
    refine wpAny_bind (make_call T I lim hroom fun h' e tk' hm => wpAny_bind (wpAny_holding (wpAny_point (wpAny_pure ?_))))
    obtain ⟨t, oe, ht, hc, hd⟩ := hm.there
    exact ⟨e, oe, t, rfl, hm.keeps _ _ T.hC, ht, hc, hd, h₂ h' e tk' hm⟩
  first
    | exact wpAny_bind (wpAny_standAt (raiseStmt_two hh (wpAny_bind (wpAny_mono main (fun v s₁ h₁ => wpAny_bind (wpAny_standAt (wpAny_pure h₁))) fun _ _ x => x))))
    | (simp only [evalOpt, Option.map]; exact wpAny_bind (wpAny_standAt (raiseStmt_two hh (wpAny_bind (wpAny_mono main (fun v s₁ h₁ => wpAny_bind (wpAny_standAt (wpAny_pure h₁))) fun _ _ x => x)))))
end
/-! B2 -/
noncomputable def frs (l : List Env) : List Addr := l.filterMap (·.frame)

inductive Station (Bh : Heap) (l : List Env) (e : Addr) (cls : Value) (L : Addr) (h : Heap) : Prop
  | made (h₁ : Heap) : Bh.StaysIn h₁ → h₁.FunFrames Bh l → MadeX h₁ h e cls → Station Bh l e cls L h
  | fly (a0 : Value) : Heap.FlyingW Bh l e cls a0 h → Station Bh l e cls L h
  | held (a0 : Value) : Heap.HeldW Bh l e cls a0 L h → Station Bh l e cls L h

noncomputable def Kept (B : Bs) (C : Cold) (fs : List Addr) (Bh h : Heap) : Prop := B.s₀.heap.StaysIn Bh ∧ (∀ b p, C b = some p → (b ∈ fs ∧ ∃ es n, p.2.data = .dict es n) ∨ Has Bh b p) ∧ C.In h
theorem Kept.mono {B : Bs} {C C' : Cold} {fs : List Addr} {Bh h : Heap} (x : Kept B C' fs Bh h) (y : C.le C') : Kept B C fs Bh h := ⟨x.1, fun b p e => x.2.1 b p (y b p e), x.2.2.mono y⟩

/-- an exception in flight, as the frame env sees it -/
noncomputable def FaultAt (B : Bs) (cls : Value) (env : Env) (l : List Env) (C : Cold) (e : Addr) (h : Heap) : Prop :=
  ∃ Bh, Kept B C (frs (env :: l)) Bh h ∧ Station Bh (env :: l) e cls env.locals h
/-- as its caller will see it -/
noncomputable def FaultOut (B : Bs) (cls : Value) (l : List Env) (C : Cold) (e : Addr) (h : Heap) : Prop :=
  ∃ Bh a0, Kept B C (frs l) Bh h ∧ Heap.FlyingW Bh l e cls a0 h
theorem FaultAt.mono {B : Bs} {cls : Value} {env : Env} {l : List Env} {C C' : Cold} {e : Addr} {h : Heap} (x : FaultAt B cls env l C' e h) (y : C.le C') : FaultAt B cls env l C e h :=
  let ⟨Bh, k, s⟩ := x; ⟨Bh, k.mono y, s⟩
theorem FaultOut.at {B : Bs} {cls : Value} {env : Env} {l : List Env} {C : Cold} {e : Addr} {h : Heap} (x : FaultOut B cls (env :: l) C e h) : FaultAt B cls env l C e h :=
  let ⟨Bh, a0, k, s⟩ := x; ⟨Bh, k, .fly a0 s⟩

theorem in_upTo {C : Cold} {Bh h h' : Heap} {l : List Env} (k : ∀ b p, C b = some p → (b ∈ frs l ∧ ∃ es n, p.2.data = .dict es n) ∨ Has Bh b p) (ci : C.In h) (hl : h.FunFrames Bh l) (st : Bh.StaysIn h') (u : h.UpToSlots h') : C.In h' := by
  intro b p e
  rcases k b p e with ⟨hm, es, n, hdd⟩ | ⟨o, ho, r⟩
  · obtain ⟨o, ho, r1, r2, _⟩ := ci b p e
    obtain ⟨_, o', ho', hn⟩ := hl.mem hm
    rw [ho] at ho'; cases ho'
    obtain ⟨sl, hs⟩ := u b o ho hn
    exact ⟨_, hs, r1, r2, fun q => absurd hdd (q _ _)⟩
  · exact ⟨o, st _ _ ho, r⟩

/-- a heap with some objects out of sight -/
noncomputable def hide (h : Heap) (fs : List Addr) : Heap := { h with objs := h.objs.mapIdx fun i o => if fs.contains i then { cls := .none, data := .freed } else o }
theorem hide_in {h : Heap} {fs : List Addr} {b : Addr} (hb : b ∈ fs) : (hide h fs).get? b = none := by
  unfold hide Heap.get?
  simp only [Array.getElem?_mapIdx]
  cases h.objs[b]? with
  | none => rfl
  | some o => simp only [Option.map_some, List.contains_iff_mem.mpr hb, if_true]
theorem hide_out {h : Heap} {fs : List Addr} {b : Addr} (hb : b ∉ fs) : (hide h fs).get? b = h.get? b := by
  unfold hide Heap.get?
  simp only [Array.getElem?_mapIdx]
  cases h.objs[b]? with
  | none => rfl
  | some o => simp only [Option.map_some, show fs.contains b = false by simpa using hb, Bool.false_eq_true, if_false]

section
variable {B : Bs} {M : Model} {A : Around} {E : Value → Shared → Prop} {s : Shared} {cls : Value} {env : Env} {l : List Env} {C : Cold} {e : Addr}

theorem made_note {h₁ : Heap} {Bh : Heap} {Q : Unit → Shared → Prop} (hfr : A.frames = some (env :: l)) (hf : env.frame = some env.locals) (hkb : Bh.StaysIn h₁) (hl : h₁.FunFrames Bh (env :: l)) (hx : MadeX h₁ s.heap e cls)
    (h : ∀ h' a0, Heap.HeldW Bh (env :: l) e cls a0 env.locals h' → s.heap.UpToSlots h' → Q () { s with heap := h' }) : wpAny M A (noteFrame (.ref e) env) Q E s := by
  obtain ⟨t, oe, he, hcl, hd⟩ := hx.there
  subst hcl
  have fresh : ∀ b, h₁.get? b = none → Bh.get? b = none := fun b hb => by
    cases hq : Bh.get? b with
    | none => rfl
    | some o' => have := hkb b o' hq; rw [hb] at this; cases this
  unfold noteFrame
  simp only [hf]
  refine wpAny_bind (wpAny_field he hd (x := .none) rfl ?_)
  rw [if_neg (by decide)]
  refine wpAny_entryW (a0 := .ref t) hfr (hl.of_keeps fun b o hb _ => ⟨o, hx.keeps b o hb, rfl⟩) hf he (fun b o hb => hx.keeps b o (hkb b o hb)) (fresh e hx.new) hd (by simp) rfl fun h' hN => ?_
  obtain ⟨k1, k2, k3, k4⟩ := hN
  exact h h' _ ⟨k1, fresh e hx.new, k2, k3⟩ k4

theorem setFlight_some {Bh : Heap} {L : Addr} {a0 : Value} {Q : Unit → Shared → Prop} (hh : Heap.HeldW Bh l e cls a0 L s.heap)
    (hQ : ∀ h', Heap.HeldW Bh l e cls a0 L h' → s.heap.UpToSlots h' → Q () { s with heap := h' }) : wpAny M A (setFlight (.ref e) (some L)) Q E s := by
  obtain ⟨hkb, hen, hl, oe, vs, T, oT, ts, he, hcls, hd, h1, hnT, hTe, hT, hdT, h3⟩ := hh
  have hsz3 : 3 < ts.size := (Array.getElem?_eq_some_iff.mp h3).1
  have other : ∀ b, b ≠ T → (s.heap.update T (Obj.mapFields (·.setIfInBounds 3 ((some L : Option Addr).elim Value.none fun f => rawInt f)))).get? b = s.heap.get? b :=
    fun b hb => Heap.get?_update_other _ _ (Ne.symm hb)
  have noRecord : ∀ b o, s.heap.get? b = some o → (∀ vs, o.data ≠ .fields vs) → b ≠ T := fun b o hb hnf q => by
    rw [q, hT] at hb; injection hb with hb; subst hb; exact hnf ts hdT
  unfold setFlight
  refine wpAny_bind (wpAny_field he hd h1 ?_)
  rw [if_pos (show (Value.ref T != Value.none) = true from by simp)]
  refine wpAny_setField hT hdT hsz3 (hQ _ ⟨fun b o hbo => (other b fun q => by rw [q, hnT] at hbo; cases hbo).trans (hkb b o hbo), hen,
    hl.of_keeps fun b o hb hnf => ⟨o, (other b (noRecord b o hb hnf)).trans hb, rfl⟩,
    oe, vs, T, _, _, (other e (Ne.symm hTe)).trans he, hcls, hd, h1, hnT, hTe, Heap.get?_update_self _ hT (Obj.isFreed_of_fields (Obj.data_mapFields hdT _)), Obj.data_mapFields hdT _, by simp [hsz3]⟩
    fun b o hb hn => ⟨o.slots, (other b (noRecord b o hb hn)).trans hb⟩)

/-- noting a fault in its frame -/
theorem fault_note {Q : Unit → Shared → Prop} (hfr : A.frames = some (env :: l)) (hf : env.frame = some env.locals) (x : FaultAt B cls env l C e s.heap)
    (h : ∀ h' Bh a0, Kept B C (frs (env :: l)) Bh h' → Heap.HeldW Bh (env :: l) e cls a0 env.locals h' → Q () { s with heap := h' }) : wpAny M A (noteFrame (.ref e) env) Q E s := by
  obtain ⟨Bh, ⟨k1, k2, k3⟩, st⟩ := x
  cases st with
  | made h₁ y1 y2 y3 =>
    refine made_note hfr hf y1 y2 y3 fun h' a0 hh u => h h' Bh a0 ⟨k1, k2, ?_⟩ hh
    exact in_upTo k2 k3 (y2.of_keeps fun b o hb _ => ⟨o, y3.keeps b o hb, rfl⟩) hh.1 u
  | fly a0 y => exact wpAny_looks_onW hfr hf y fun h' hh u => h h' Bh a0 ⟨k1, k2, in_upTo k2 k3 y.2.2.1 hh.1 u⟩ hh
  | held a0 y => exact wpAny_noteFrame_againW hf y.2.2.2 (h s.heap Bh a0 ⟨k1, k2, k3⟩ y)

/-- a fault that leaves an activation of a loop -/
theorem fault_back {E' : Value → Shared → Prop} (hfr : A.frames = some (env :: l)) (hf : env.frame = some env.locals)
    (hE : ∀ e h', FaultAt B cls env l C e h' → E' (.ref e) { s with heap := h' }) (x : FaultAt B cls env l C e s.heap) :
    notedBy M A env (cameBackBy M A env E') (.ref e) s := by
  refine fault_note hfr hf x fun h' Bh a0 k hh => ?_
  obtain ⟨oe, vs, T, oT, ts, he, hcls, hd, h1, _⟩ := hh.2.2.2
  show wpAny M A _ _ _ _
  refine wpAny_bind (wpAny_field he hd h1 ?_)
  rw [if_neg (by simp)]
  rw [hf]
  refine setFlight_some hh fun h'' hh' u => hE e h'' ⟨Bh, ⟨k.1, k.2.1, in_upTo k.2.1 k.2.2 hh.2.2.1 hh'.1 u⟩, .held a0 hh'⟩

/-- a fault that leaves its frame -/
theorem fault_leave {Q : Unit → Shared → Prop} (hfr : A.frames = some (env :: l)) (hf : env.frame = some env.locals) (hL : C env.locals = none) (x : FaultAt B cls env l C e s.heap)
    (h : ∀ h', FaultOut B cls l C e h' → Q () { s with heap := h' }) : wpAny M A (leaving env (.ref e)) Q E s := by
  unfold leaving
  refine wpAny_bind (fault_note hfr hf x fun h' Bh a0 k hh => ?_)
  refine wpAny_landsW hh fun h'' hfl u => h h'' ⟨Bh, a0, ⟨k.1, fun b p e => ?_, in_upTo k.2.1 k.2.2 hh.2.2.1 hfl.1 u⟩, hfl.1, hfl.2.1, ?_, hfl.2.2.2⟩
  · rcases k.2.1 b p e with ⟨q, qd⟩ | q
    · refine .inl ⟨?_, qd⟩
      rw [frs, List.filterMap_cons, hf] at q
      rcases List.mem_cons.mp q with rfl | q
      · rw [hL] at e; cases e
      · exact q
    · exact .inr q
  · obtain ⟨_, _, q⟩ := hfl.2.2.1; exact q
end
/-! B3 -/
noncomputable def Room (A : Around) (n : Nat) : Prop := A.depth + 4 * n < 900 ∧ A.units + 200 * n < 9000
theorem Room.deeper {A : Around} {n : Nat} (r : Room A (n + 1)) (env : Env) : Room (A.deeper env) n := ⟨by show A.depth + 1 + 4 * n < 900; have := r.1; (exact ob2 this), by show A.units + 3 + 200 * n < 9000; have := r.2; (exact ob3 this)⟩
theorem Room.le {A : Around} {n m : Nat} (r : Room A n) (h : m ≤ n) : Room A m := ⟨by have := r.1; (exact ob4 h this), by have := r.2; (exact ob5 h this)⟩
theorem Room.depth {A : Around} {n : Nat} (r : Room A n) : A.depth < recursionLimit := by have := r.1; show A.depth < 1000; (exact ob6 this)
theorem Room.units {A : Around} {n : Nat} (r : Room A n) : A.units + 800 < cLine := by have := r.2; show A.units + 800 < 9900; (exact ob7 this)

noncomputable def biNames : List Str := ["len", "bytes", "bytearray", "ord", "chr", "list", "sorted", "zip", "enumerate", "range", "sum", "max", "int", "tuple", "str"]

noncomputable abbrev fnOfS : Option Stmt → Option (Arguments × List Stmt × Scope) := fnOf0
noncomputable def fx (k : Nat) : Arguments × List Stmt × Scope := (fnOfS (pw.main.body[k]?)).getD default

noncomputable def DfOk (B : Bs) (k : Nat) (dV : Value) : Prop :=
  if k = 12 ∨ k = 13 then ∃ T o n t, dV = .ref T ∧ B.s₀.heap.get? T = some o ∧ o.data = .seq #[.int (if k = 12 then 0 else 1) t] n else dV = .none
noncomputable def FnAt (B : Bs) (f : Str) (k : Nat) (a : Addr) : Prop :=
  B.mg f = some (.ref a) ∧ ∃ o fd, B.s₀.heap.get? a = some o ∧ o.cls = .type "function" ∧ o.data = .func fd ∧ B.s₀.heap.CodeRec fd.code fd.qualname ∧ fd.qualname = f ∧
    fd.params = (fx k).1 ∧ fd.body = .stmts (fx k).2.1 ∧ fd.scope = (fx k).2.2 ∧ fd.globals = mainGlobals ∧ fd.closure = [] ∧ fd.builtins = builtinsNs ∧ fd.kwdefaults = .none ∧ DfOk B k fd.defaults

noncomputable def fnTab : List (Str × Nat) := [("nearest", 5), ("guess", 6), ("unfiltered", 7), ("get32", 10), ("crc_steps", 11), ("crc32", 12), ("adler32", 13), ("block_size", 14), ("unstored", 15), ("read_chunks", 19), ("check_chunks", 20), ("read_png", 21),
  ("_law_pool", 23), ("_law_take", 24), ("_law_one", 25), ("_law_four", 26), ("_law_check", 27), ("_law_chunk", 28), ("_law_stream", 29), ("_law_parted", 30), ("_law_lots", 31), ("_law_written", 32), ("_law_turned", 33), ("_law_read", 34)]

noncomputable def gInts : List (Str × Int) := [("NONE", 0), ("SUB", 1), ("UP", 2), ("AVERAGE", 3), ("PAETH", 4), ("MOST_ADLER", 65521), ("STEP", 4)]
structure Stat (B : Bs) : Prop where
  gi : ∀ x i, gInts.lookup x = some i → ∃ t, B.mg x = some (.int i t)
  gs : ∃ t, B.mg "SIGN" = some (.bytes #[137, 80, 78, 71, 13, 10, 26, 10] t)
  sf : ∀ P : Prop, (∀ C N M fI cM ddM cdM slM mN mM nm q bs sn sub ab col dd k0 k1 k2 k3 k5, B.mg "SheetFault" = some (.ref C) → TwoCls B.s₀.heap C N M fI cM ddM cdM slM mN mM nm q bs sn sub ab col dd k0 k1 k2 k3 k5 → InitOk B.s₀.heap fI → P) → P
  g : B.s₀.heap.Ns mainGlobals B.mg
  b : B.s₀.heap.Ns builtinsNs B.mb
  lim : B.s₀.heap.NoLimit
  bi : ∀ x : Str, x ≠ "__name__" → B.mb x = bootBuiltins x
  free : ∀ x ∈ biNames, B.mg x = none
  fns : ∀ f k, fnTab.lookup f = some k → ∃ a, FnAt B f k a
theorem Stat.fnE {B : Bs} (st : Stat B) {f : Str} {k : Nat} (hk : fnTab.lookup f = some k) {P : Prop} (h : ∀ fa, B.mg f = some (.ref fa) → ∀ o fd, B.s₀.heap.get? fa = some o → o.cls = .type "function" → o.data = .func fd → B.s₀.heap.CodeRec fd.code fd.qualname → fd.qualname = f →
    fd.params = (fx k).1 → fd.body = .stmts (fx k).2.1 → fd.scope = (fx k).2.2 → fd.globals = mainGlobals → fd.closure = [] → fd.builtins = builtinsNs → fd.kwdefaults = .none → DfOk B k fd.defaults → P) : P :=
  (st.fns f k hk).elim fun fa q => q.2.elim fun o q2 => q2.elim fun fd x => h fa q.1 o fd x.1 x.2.1 x.2.2.1 x.2.2.2.1 x.2.2.2.2.1 x.2.2.2.2.2.1 x.2.2.2.2.2.2.1 x.2.2.2.2.2.2.2.1 x.2.2.2.2.2.2.2.2.1 x.2.2.2.2.2.2.2.2.2.1 x.2.2.2.2.2.2.2.2.2.2.1 x.2.2.2.2.2.2.2.2.2.2.2.1 x.2.2.2.2.2.2.2.2.2.2.2.2

structure ActOk (B : Bs) (a : Act) : Prop where
  st : Stat B
  hh : a.A.handled = none
  room : Room a.A (a.n + 1)
  kind : a.env.scope.kind = .function
  gl : a.env.globals = mainGlobals
  bu : a.env.builtins = builtinsNs
  apart : ∀ x y c, a.env.cells.lookup x = some c → a.env.cells.lookup y = some c → x = y
  W : ∀ x c, (x, c) ∈ a.W → a.env.cells.lookup x = some c
  fr : ∀ l, a.fr = some l → a.A.frames = some (a.env :: l) ∧ a.env.frame = some a.env.locals

noncomputable def Nx (B : Bs) (a : Act) (Δ : DE) (C : Cold) (ρ : List Addr) (K : D → List MO → Prop) (Q : Value → Shared → Prop) : Prop :=
  ∀ v d C' ρ' μ' s', K d μ' → C.le C' → ρ <+: ρ' → St B a Δ C' ρ' μ' s' → VRd C' ρ' v d → Q v s'
noncomputable def FltOk (B : Bs) (cls : Value) (a : Act) (C : Cold) (E : Value → Shared → Prop) : Prop :=
  ∀ l, a.fr = some l → ∀ e s', Base B s' → FaultAt B cls a.env l C e s'.heap → E (.ref e) s'
noncomputable def sfC (B : Bs) : Value := (B.mg "SheetFault").getD .none

theorem FltOk.mono {B : Bs} {cls : Value} {a : Act} {C C' : Cold} {E : Value → Shared → Prop} (x : FltOk B cls a C E) (y : C.le C') : FltOk B cls a C' E :=
  fun l hl e s' b f => x l hl e s' b (f.mono y)
theorem Nx.mono {B : Bs} {a : Act} {Δ : DE} {C C' : Cold} {ρ ρ' : List Addr} {K K' : D → List MO → Prop} {Q : Value → Shared → Prop} (x : Nx B a Δ C ρ K Q) (y : C.le C') (z : ρ <+: ρ') (k : ∀ d μ, K' d μ → K d μ) : Nx B a Δ C' ρ' K' Q :=
  fun v d C'' ρ'' μ' s' h1 h2 h3 => x v d C'' ρ'' μ' s' (k _ _ h1) (y.trans h2) (z.trans h3)

/-- e, in the frame a where the names hold Δ and the changed objects μ, yields a datum and leaves μ' as K says (or a SheetFault flies, where a lets it) -/
noncomputable def Ev (B : Bs) (a : Act) (Δ : DE) (μ : List MO) (e : Expr) (K : D → List MO → Prop) : Prop :=
  ActOk B a → ∀ C ρ s, St B a Δ C ρ μ s → ∀ Q E, Nx B a Δ C ρ K Q → FltOk B (sfC B) a C E → wpAny (model pw B.w) a.A (eval e a.env) Q E s
noncomputable def EvB (B : Bs) (a : Act) (Δ : DE) (μ : List MO) (e : Expr) (K : Bool → List MO → Prop) : Prop :=
  ActOk B a → ∀ C ρ s, St B a Δ C ρ μ s → ∀ Q E, (∀ b C' ρ' μ' s', K b μ' → C.le C' → ρ <+: ρ' → St B a Δ C' ρ' μ' s' → Q b s') → FltOk B (sfC B) a C E → wpAny (model pw B.w) a.A (isTrue e a.env (eval e a.env)) Q E s
/-- a built-in step upon values that are at hand -/
noncomputable def Op (ds : List D) (t : List Value → Sem Value) (μ : List MO) (K : D → List MO → Prop) : Prop :=
  ∀ B a Δ, ActOk B a → ∀ C ρ s vs, St B a Δ C ρ μ s → (∀ i d, ds[i]? = some d → VRd C ρ (vs.getD i .none) d) → vs.length = ds.length → ∀ Q E, Nx B a Δ C ρ K Q → wpAny (model pw B.w) a.A (t vs) Q E s

section
variable {B : Bs} {a : Act} {Δ : DE} {μ : List MO} {K : D → List MO → Prop} {pos : Pos} {k : Nat}

theorem Ev.mono {K' : D → List MO → Prop} {e : Expr} (h : Ev B a Δ μ e K') (k : ∀ d μ, K' d μ → K d μ) : Ev B a Δ μ e K :=
  fun ok C ρ s S Q E hQ hE => h ok C ρ s S Q E (hQ.mono (.refl _) List.prefix_rfl k) hE

theorem Ev.knone (h : K .none μ) : Ev B a Δ μ (.Constant .none k pos) K := fun ok C ρ s S Q E hQ _ => wpAny_Constant_none (hQ _ _ _ _ _ _ h (.refl _) List.prefix_rfl S .none)
theorem Ev.kbool {b : Bool} (h : K (.bool b) μ) : Ev B a Δ μ (.Constant (.bool b) k pos) K := fun ok C ρ s S Q E hQ _ => wpAny_Constant_bool (hQ _ _ _ _ _ _ h (.refl _) List.prefix_rfl S (.bool b))
theorem Ev.kint {i : Int} (h : K (.int i) μ) : Ev B a Δ μ (.Constant (.int i) k pos) K := fun ok C ρ s S Q E hQ _ => wpAny_Constant_int (hQ _ _ _ _ _ _ h (.refl _) List.prefix_rfl (S.tok _) (.int _ _))
theorem Ev.kstr {x : Str} (h : K (.str x) μ) : Ev B a Δ μ (.Constant (.str x) k pos) K := fun ok C ρ s S Q E hQ _ => wpAny_Constant_str (hQ _ _ _ _ _ _ h (.refl _) List.prefix_rfl (S.tok _) (.str _ _))
theorem Ev.kbyt {x : List UInt8} (h : K (.bytes (x.map fun c => (c.toNat : Int))) μ) : Ev B a Δ μ (.Constant (.bytes x) k pos) K := fun ok C ρ s S Q E hQ _ =>
  PySem.W.Constant_bytes (hQ _ _ _ _ _ _ h (.refl _) List.prefix_rfl (S.tok _) (by rw [← KBw.ints_list]; exact .bytes _ _))

theorem wp_name {x : Str} {d : D} {C : Cold} {ρ : List Addr} {s : Shared} {M : Model} {A : Around} {Q : Value → Shared → Prop} {E : Value → Shared → Prop} (ok : ActOk B a) (S : St B a Δ C ρ μ s) (e : Δ.lookup x = some d)
    (hQ : ∀ v, VRd C ρ v d → Q v s) : wpAny M A (loadName a.env x) Q E s := by
  obtain ⟨m, hn, hm⟩ := S.ns
  obtain ⟨v, hv, hb⟩ := hm x d e
  rcases hb with ⟨hk, hx⟩ | ⟨hk, c, hc, o⟩
  · exact wpAny_loadName_local ok.kind hk hn hx (hQ v hv)
  · exact wpAny_loadName_cell ok.kind hk hc o (hQ v hv)
theorem Ev.name {x : Str} {d : D} (e : Δ.lookup x = some d) (h : K d μ) (hd : (x == ("__debug__" : Str)) = false := by rfl) : Ev B a Δ μ (.Name x pos) K := fun ok C ρ s S Q E hQ _ =>
  wpAny_Name (wp_name ok S e fun v hv => hQ _ _ _ _ _ _ h (.refl _) List.prefix_rfl S hv) hd

theorem wp_global {x : Str} {v : Value} {C : Cold} {ρ : List Addr} {s : Shared} {A : Around} {Q : Value → Shared → Prop} {E : Value → Shared → Prop} (ok : ActOk B a) (S : St B a Δ C ρ μ s) (hx : a.env.kindOf x = some .globalImplicit)
    (e : B.mg x = some v) (h : Q v s) (hd : (x == ("__debug__" : Str)) = false := by rfl) : wpAny (model pw B.w) A (eval (.Name x pos) a.env) Q E s :=
  Name_function_global ok.kind hx (loadGlobal_global (mg := B.mg) (by rw [ok.gl]; exact ok.st.g.keeps fun _ _ e => S.base.keep _ _ e) e h) hd
theorem wp_builtin {x : Str} {v : Value} {C : Cold} {ρ : List Addr} {s : Shared} {A : Around} {Q : Value → Shared → Prop} {E : Value → Shared → Prop} (ok : ActOk B a) (S : St B a Δ C ρ μ s) (hx : a.env.kindOf x = some .globalImplicit)
    (hm : x ∈ biNames) (e : bootBuiltins x = some v) (h : Q v s) (hn : x ≠ "__name__") (hd : (x == ("__debug__" : Str)) = false := by rfl) : wpAny (model pw B.w) A (eval (.Name x pos) a.env) Q E s :=
  Name_function_global ok.kind hx (loadGlobal_builtin (mg := B.mg) (mb := B.mb) (by rw [ok.gl]; exact ok.st.g.keeps fun _ _ e => S.base.keep _ _ e) (ok.st.free x hm) (by rw [ok.bu]; exact ok.st.b.keeps fun _ _ e => S.base.keep _ _ e)
    ((ok.st.bi x hn).trans e) h) hd

theorem Ev.binop {l r : Expr} {op : Operator} (h : Ev B a Δ μ l fun d1 μ1 => Ev B a Δ μ1 r fun d2 μ2 => Op [d1, d2] (fun vs => binaryOp op (vs.getD 0 .none) (vs.getD 1 .none)) μ2 K) : Ev B a Δ μ (.BinOp l op r pos) K := fun ok C ρ s S Q E hQ hE =>
  wpAny_BinOp (h ok C ρ s S _ E (fun v1 d1 C1 ρ1 μ1 s1 k1 c1 p1 S1 r1 => k1 ok C1 ρ1 s1 S1 _ E (fun v2 d2 C2 ρ2 μ2 s2 k2 c2 p2 S2 r2 =>
    k2 B a Δ ok C2 ρ2 s2 [v1, v2] S2 (fun i d e => by
      match i, e with
      | 0, e => cases e; exact r1.mono c2 p2
      | 1, e => cases e; exact r2) rfl Q E (hQ.mono (c1.trans c2) (p1.trans p2) fun _ _ h => h)) (hE.mono c1)) hE)

theorem Ev.cmp {l r : Expr} {op : CmpOp} (h : Ev B a Δ μ l fun d1 μ1 => Ev B a Δ μ1 r fun d2 μ2 => Op [d1, d2] (fun vs => compareOp op (vs.getD 0 .none) (vs.getD 1 .none)) μ2 K)
    (hm : behindInMarks op r = false := by with_unfolding_all rfl) : Ev B a Δ μ (.Compare l [op] [r] pos) K := fun ok C ρ s S Q E hQ hE =>
  wpAny_Compare1 (h ok C ρ s S _ E (fun v1 d1 C1 ρ1 μ1 s1 k1 c1 p1 S1 r1 => k1 ok C1 ρ1 s1 S1 _ E (fun v2 d2 C2 ρ2 μ2 s2 k2 c2 p2 S2 r2 =>
    k2 B a Δ ok C2 ρ2 s2 [v1, v2] S2 (fun i d e => by
      match i, e with
      | 0, e => cases e; exact r1.mono c2 p2
      | 1, e => cases e; exact r2) rfl Q E (hQ.mono (c1.trans c2) (p1.trans p2) fun _ _ h => h)) (hE.mono c1)) hE) hm

theorem EvB.cmp {KB : Bool → List MO → Prop} {l r : Expr} {op : CmpOp} (h : Ev B a Δ μ l fun d1 μ1 => Ev B a Δ μ1 r fun d2 μ2 => Op [d1, d2] (fun vs => compareOp op (vs.getD 0 .none) (vs.getD 1 .none)) μ2 fun d μ3 => ∃ b, d = .bool b ∧ KB b μ3)
    (hm : behindInMarks op r = false := by with_unfolding_all rfl) : EvB B a Δ μ (.Compare l [op] [r] pos) KB := fun ok C ρ s S Q E hQ hE =>
  wpAny_isTrue_Compare1 (h ok C ρ s S _ E (fun v1 d1 C1 ρ1 μ1 s1 k1 c1 p1 S1 r1 => k1 ok C1 ρ1 s1 S1 _ E (fun v2 d2 C2 ρ2 μ2 s2 k2 c2 p2 S2 r2 =>
    k2 B a Δ ok C2 ρ2 s2 [v1, v2] S2 (fun i d e => by
      match i, e with
      | 0, e => cases e; exact r1.mono c2 p2
      | 1, e => cases e; exact r2) rfl _ E (fun v d C3 ρ3 μ3 s3 k3 c3 p3 S3 r3 => by
        obtain ⟨b, rfl, kb⟩ := k3
        cases Rd.boolI r3
        exact wpAny_truthy_bool (hQ _ _ _ _ _ kb (c1.trans (c2.trans c3)) (p1.trans (p2.trans p3)) S3))) (hE.mono c1)) hE) hm

theorem EvB.nop {KB : Bool → List MO → Prop} {x : Expr} (h : EvB B a Δ μ x fun b μ1 => KB (!b) μ1) : EvB B a Δ μ (.UnaryOp .Not x pos) KB := fun ok C ρ s S Q E hQ hE =>
  wpAny_isTrue_Not (h ok C ρ s S _ E (fun b C1 ρ1 μ1 s1 k1 => hQ _ _ _ _ _ k1) hE)
theorem Ev.neg {x : Expr} (h : Ev B a Δ μ x fun d1 μ1 => ∃ i, d1 = .int i ∧ K (.int (-i)) μ1) : Ev B a Δ μ (.UnaryOp .USub x pos) K := fun ok C ρ s S Q E hQ hE =>
  wpAny_UnaryOp (h ok C ρ s S _ E (fun v d C1 ρ1 μ1 s1 k1 c1 p1 S1 r1 => by
    obtain ⟨i, rfl, k1⟩ := k1
    obtain ⟨_, rfl⟩ := Rd.intI r1
    exact neg_int (hQ _ _ _ _ _ _ k1 c1 p1 (S1.tok _) (.int _ _))) hE)

theorem Ev.ifexp {t b o : Expr} (h : EvB B a Δ μ t fun c μ1 => if c then Ev B a Δ μ1 b K else Ev B a Δ μ1 o K) : Ev B a Δ μ (.IfExp t b o pos) K := fun ok C ρ s S Q E hQ hE =>
  wpAny_IfExp (h ok C ρ s S _ E (fun c C1 ρ1 μ1 s1 k1 c1 p1 S1 => by
    cases c with
    | true => exact k1 ok C1 ρ1 s1 S1 Q E (hQ.mono c1 p1 fun _ _ h => h) (hE.mono c1)
    | false => exact k1 ok C1 ρ1 s1 S1 Q E (hQ.mono c1 p1 fun _ _ h => h) (hE.mono c1)) hE)

noncomputable def EvAll (B : Bs) (a : Act) (Δ : DE) (op : BoolOp) : List Expr → List MO → (Bool → List MO → Prop) → Prop
  | [], μ, K => K (op == .And) μ
  | e :: r, μ, K => EvB B a Δ μ e fun b μ1 => if b = (op == .And) then EvAll B a Δ op r μ1 K else K b μ1
theorem EvAll.nil {op : BoolOp} {KB : Bool → List MO → Prop} (h : KB (op == .And) μ) : EvAll B a Δ op [] μ KB := h
theorem EvAll.cons {op : BoolOp} {e : Expr} {r : List Expr} {KB : Bool → List MO → Prop} (h : EvB B a Δ μ e fun b μ1 => if b = (op == .And) then EvAll B a Δ op r μ1 KB else KB b μ1) : EvAll B a Δ op (e :: r) μ KB := h
theorem evAll_wp {op : BoolOp} : ∀ {es : List Expr} {μ : List MO} {KB : Bool → List MO → Prop}, EvAll B a Δ op es μ KB → ActOk B a → ∀ C ρ s, St B a Δ C ρ μ s → ∀ Q E,
    (∀ b C' ρ' μ' s', KB b μ' → C.le C' → ρ <+: ρ' → St B a Δ C' ρ' μ' s' → Q b s') → FltOk B (sfC B) a C E → wpAny (model pw B.w) a.A (allTrue op es a.env) Q E s
  | [], μ, KB, h, ok, C, ρ, s, S, Q, E, hQ, hE => by
    cases op with
    | And => exact wpAny_allTrue_And_nil (hQ _ _ _ _ _ h (.refl _) List.prefix_rfl S)
    | Or => exact wpAny_allTrue_Or_nil (hQ _ _ _ _ _ h (.refl _) List.prefix_rfl S)
  | e :: r, μ, KB, h, ok, C, ρ, s, S, Q, E, hQ, hE => by
    cases op with
    | And =>
      refine wpAny_allTrue_And_cons (h ok C ρ s S _ E (fun b C1 ρ1 μ1 s1 k1 c1 p1 S1 => ?_) hE)
      cases b with
      | true => exact evAll_wp (KB := KB) k1 ok C1 ρ1 s1 S1 Q E (fun b C' ρ' μ' s' k c p => hQ b C' ρ' μ' s' k (c1.trans c) (p1.trans p)) (hE.mono c1)
      | false => exact hQ _ _ _ _ _ k1 c1 p1 S1
    | Or =>
      refine wpAny_allTrue_Or_cons (h ok C ρ s S _ E (fun b C1 ρ1 μ1 s1 k1 c1 p1 S1 => ?_) hE)
      cases b with
      | false => exact evAll_wp (KB := KB) k1 ok C1 ρ1 s1 S1 Q E (fun b C' ρ' μ' s' k c p => hQ b C' ρ' μ' s' k (c1.trans c) (p1.trans p)) (hE.mono c1)
      | true => exact hQ _ _ _ _ _ k1 c1 p1 S1
theorem EvB.bop {KB : Bool → List MO → Prop} {op : BoolOp} {es : List Expr} (h : EvAll B a Δ op es μ KB) : EvB B a Δ μ (.BoolOp op es pos) KB := fun ok C ρ s S Q E hQ hE =>
  wpAny_isTrue_BoolOp (evAll_wp h ok C ρ s S Q E hQ hE)
end
/-! B4 -/
section
variable {μ : List MO} {K : D → List MO → Prop} {d d' : D}
theorem Op.two {f : Value → Value → Sem Value} (h : ∀ B a Δ, ActOk B a → ∀ C ρ s v w, St B a Δ C ρ μ s → VRd C ρ v d → VRd C ρ w d' → ∀ Q E, Nx B a Δ C ρ K Q → wpAny (model pw B.w) a.A (f v w) Q E s) :
    Op [d, d'] (fun vs => f (vs.getD 0 .none) (vs.getD 1 .none)) μ K := fun B a Δ ok C ρ s vs S hv hl Q E hQ =>
  h B a Δ ok C ρ s _ _ S (hv 0 d rfl) (hv 1 d' rfl) Q E hQ
theorem Op.one {f : Value → Sem Value} (h : ∀ B a Δ, ActOk B a → ∀ C ρ s v, St B a Δ C ρ μ s → VRd C ρ v d → ∀ Q E, Nx B a Δ C ρ K Q → wpAny (model pw B.w) a.A (f v) Q E s) :
    Op [d] (fun vs => f (vs.getD 0 .none)) μ K := fun B a Δ ok C ρ s vs S hv hl Q E hQ =>
  h B a Δ ok C ρ s _ S (hv 0 d rfl) Q E hQ
end

section
variable {μ : List MO} {K : D → List MO → Prop} {i j : Int}
theorem Op.add (h : K (.int (i + j)) μ) : Op [.int i, .int j] (fun vs => binaryOp .Add (vs.getD 0 .none) (vs.getD 1 .none)) μ K :=
  Op.two fun B a Δ ok C ρ s v w S hv hw Q E hQ => by cases hv; cases hw; exact add_int (hQ _ _ _ _ _ _ h (.refl _) List.prefix_rfl (S.tok _) (.int _ _))
theorem Op.sub (h : K (.int (i - j)) μ) : Op [.int i, .int j] (fun vs => binaryOp .Sub (vs.getD 0 .none) (vs.getD 1 .none)) μ K :=
  Op.two fun B a Δ ok C ρ s v w S hv hw Q E hQ => by cases hv; cases hw; exact sub_int (hQ _ _ _ _ _ _ h (.refl _) List.prefix_rfl (S.tok _) (.int _ _))
theorem Op.mul (hm : IntMulOk i j) (h : K (.int (i * j)) μ) : Op [.int i, .int j] (fun vs => binaryOp .Mult (vs.getD 0 .none) (vs.getD 1 .none)) μ K :=
  Op.two fun B a Δ ok C ρ s v w S hv hw Q E hQ => by cases hv; cases hw; exact mul_int (hQ _ _ _ _ _ _ h (.refl _) List.prefix_rfl (S.tok _) (.int _ _)) hm
theorem Op.floordiv (h0 : 0 < j) (h1 : j < 1073741824) (h : K (.int (i / j)) μ) : Op [.int i, .int j] (fun vs => binaryOp .FloorDiv (vs.getD 0 .none) (vs.getD 1 .none)) μ K :=
  Op.two fun B a Δ ok C ρ s v w S hv hw Q E hQ => by
    cases hv; cases hw
    refine floordiv_int_or ok.hh (fun e => by (exact (ob8 e h0).elim)) (fun _ => ?_) fun _ => .inl (PyProof.noPylong_small (by (exact ob9 h1 h0)))
    rw [Int.fdiv_eq_ediv_of_nonneg _ (by (exact Int.le_of_lt h0))]
    exact hQ _ _ _ _ _ _ h (.refl _) List.prefix_rfl (S.tok _) (.int _ _)
theorem Op.mod (h0 : 0 < j) (h : K (.int (i % j)) μ) : Op [.int i, .int j] (fun vs => binaryOp .Mod (vs.getD 0 .none) (vs.getD 1 .none)) μ K :=
  Op.two fun B a Δ ok C ρ s v w S hv hw Q E hQ => by
    cases hv; cases hw
    refine mod_int_or ok.hh (fun e => by (exact (ob8 e h0).elim)) (fun _ => ?_)
    rw [Int.fmod_eq_emod_of_nonneg _ (by (exact Int.le_of_lt h0))]
    exact hQ _ _ _ _ _ _ h (.refl _) List.prefix_rfl (S.tok _) (.int _ _)
theorem Op.xor (h : K (.int (Builtin.bitXor i j)) μ) : Op [.int i, .int j] (fun vs => binaryOp .BitXor (vs.getD 0 .none) (vs.getD 1 .none)) μ K :=
  Op.two fun B a Δ ok C ρ s v w S hv hw Q E hQ => by cases hv; cases hw; exact xor_int (hQ _ _ _ _ _ _ h (.refl _) List.prefix_rfl (S.tok _) (.int _ _))
theorem Op.and (h : K (.int (Builtin.bitAnd i j)) μ) : Op [.int i, .int j] (fun vs => binaryOp .BitAnd (vs.getD 0 .none) (vs.getD 1 .none)) μ K :=
  Op.two fun B a Δ ok C ρ s v w S hv hw Q E hQ => by cases hv; cases hw; exact and_int (hQ _ _ _ _ _ _ h (.refl _) List.prefix_rfl (S.tok _) (.int _ _))
theorem Op.or (h : K (.int (Builtin.bitOr i j)) μ) : Op [.int i, .int j] (fun vs => binaryOp .BitOr (vs.getD 0 .none) (vs.getD 1 .none)) μ K :=
  Op.two fun B a Δ ok C ρ s v w S hv hw Q E hQ => by cases hv; cases hw; exact or_int (hQ _ _ _ _ _ _ h (.refl _) List.prefix_rfl (S.tok _) (.int _ _))
theorem Op.shl (h0 : 0 ≤ j) (h1 : j ≤ 1000000) (h2 : i.natAbs < 2 ^ 64) (h : K (.int (i * 2 ^ j.toNat)) μ) : Op [.int i, .int j] (fun vs => binaryOp .LShift (vs.getD 0 .none) (vs.getD 1 .none)) μ K :=
  Op.two fun B a Δ ok C ρ s v w S hv hw Q E hQ => by cases hv; cases hw; exact lshift_int_small h0 h1 h2 (hQ _ _ _ _ _ _ h (.refl _) List.prefix_rfl (S.tok _) (.int _ _))
theorem Op.shr (h0 : 0 ≤ j) (h : K (.int (i / 2 ^ j.toNat)) μ) : Op [.int i, .int j] (fun vs => binaryOp .RShift (vs.getD 0 .none) (vs.getD 1 .none)) μ K :=
  Op.two fun B a Δ ok C ρ s v w S hv hw Q E hQ => by
    cases hv; cases hw
    refine rshift_int h0 ?_
    rw [Int.fdiv_eq_ediv_of_nonneg _ (Int.le_of_lt (Int.pow_pos (by decide)))]
    exact hQ _ _ _ _ _ _ h (.refl _) List.prefix_rfl (S.tok _) (.int _ _)
theorem Op.pow (h0 : 0 ≤ j) (h1 : j ≤ 100) (h2 : i.natAbs < 2 ^ 64) (h : K (.int (i ^ j.toNat)) μ) : Op [.int i, .int j] (fun vs => binaryOp .Pow (vs.getD 0 .none) (vs.getD 1 .none)) μ K :=
  Op.two fun B a Δ ok C ρ s v w S hv hw Q E hQ => by
    cases hv; cases hw
    refine pow_int h0 ?_ (hQ _ _ _ _ _ _ h (.refl _) List.prefix_rfl (S.tok _) (.int _ _))
    have := PyProof.Rows.intBits_le (k := 64) h2
    have e : (Builtin.Int.intBits i : Int) * j ≤ 64 * 100 := Int.mul_le_mul (by (exact Int.ofNat_le.mpr this)) h1 h0 (by decide)
    exact Int.le_trans e (by decide)
theorem Op.eq (h : K (.bool (i == j)) μ) : Op [.int i, .int j] (fun vs => compareOp .Eq (vs.getD 0 .none) (vs.getD 1 .none)) μ K :=
  Op.two fun B a Δ ok C ρ s v w S hv hw Q E hQ => by cases hv; cases hw; exact eq_int (hQ _ _ _ _ _ _ h (.refl _) List.prefix_rfl S (.bool _))
theorem Op.ne (h : K (.bool (i != j)) μ) : Op [.int i, .int j] (fun vs => compareOp .NotEq (vs.getD 0 .none) (vs.getD 1 .none)) μ K :=
  Op.two fun B a Δ ok C ρ s v w S hv hw Q E hQ => by cases hv; cases hw; exact ne_int (hQ _ _ _ _ _ _ h (.refl _) List.prefix_rfl S (.bool _))
theorem Op.lt (h : K (.bool (decide (i < j))) μ) : Op [.int i, .int j] (fun vs => compareOp .Lt (vs.getD 0 .none) (vs.getD 1 .none)) μ K :=
  Op.two fun B a Δ ok C ρ s v w S hv hw Q E hQ => by cases hv; cases hw; exact lt_int (hQ _ _ _ _ _ _ h (.refl _) List.prefix_rfl S (.bool _))
theorem Op.gt (h : K (.bool (decide (i > j))) μ) : Op [.int i, .int j] (fun vs => compareOp .Gt (vs.getD 0 .none) (vs.getD 1 .none)) μ K :=
  Op.two fun B a Δ ok C ρ s v w S hv hw Q E hQ => by cases hv; cases hw; exact gt_int (hQ _ _ _ _ _ _ h (.refl _) List.prefix_rfl S (.bool _))
theorem Op.ge (h : K (.bool (decide (i ≥ j))) μ) : Op [.int i, .int j] (fun vs => compareOp .GtE (vs.getD 0 .none) (vs.getD 1 .none)) μ K :=
  Op.two fun B a Δ ok C ρ s v w S hv hw Q E hQ => by cases hv; cases hw; exact ge_int (hQ _ _ _ _ _ _ h (.refl _) List.prefix_rfl S (.bool _))
end

section
variable {μ : List MO} {K : D → List MO → Prop} {x y : Str}
theorem Op.eqs (h : K (.bool (x == y)) μ) : Op [.str x, .str y] (fun vs => compareOp .Eq (vs.getD 0 .none) (vs.getD 1 .none)) μ K :=
  Op.two fun B a Δ ok C ρ s v w S hv hw Q E hQ => by cases hv; cases hw; exact PyProof.Rows.eq_str (hQ _ _ _ _ _ _ h (.refl _) List.prefix_rfl S (.bool _))
theorem Op.nes (h : K (.bool (x != y)) μ) : Op [.str x, .str y] (fun vs => compareOp .NotEq (vs.getD 0 .none) (vs.getD 1 .none)) μ K :=
  Op.two fun B a Δ ok C ρ s v w S hv hw Q E hQ => by cases hv; cases hw; exact PyProof.Rows.ne_str (hQ _ _ _ _ _ _ h (.refl _) List.prefix_rfl S (.bool _))
end

theorem bI_inj {b c : Array UInt8} (h : KBw.bInts b = KBw.bInts c) : b = c := by
  unfold KBw.bInts at h
  apply Array.toList_inj.mp
  revert h
  generalize b.toList = l
  generalize c.toList = m
  intro h
  induction l generalizing m with
  | nil => cases m with
    | nil => rfl
    | cons _ _ => simp at h
  | cons x l ih => cases m with
    | nil => simp at h
    | cons y m =>
      simp only [List.map_cons, List.cons.injEq] at h
      rw [ih m h.2, UInt8.toNat_inj.mp (Int.ofNat.inj h.1)]
theorem bI_beq (b c : Array UInt8) : (b.toList == c.toList) = (KBw.bInts b == KBw.bInts c) := by
  rw [Bool.eq_iff_iff]; simp only [beq_iff_eq]
  exact ⟨fun h => by rw [Array.toList_inj.mp h], fun h => by rw [bI_inj h]⟩
theorem bI_in {b : Array UInt8} {k : Int} (h : k ∈ KBw.bInts b) : 0 ≤ k ∧ k < 256 := KBw.ints_in h
section
variable {μ : List MO} {K : D → List MO → Prop} {ns ms : List Int}
theorem Op.eqb (h : K (.bool (ns == ms)) μ) : Op [.bytes ns, .bytes ms] (fun vs => compareOp .Eq (vs.getD 0 .none) (vs.getD 1 .none)) μ K :=
  Op.two fun B a Δ ok C ρ s v w S hv hw Q E hQ => by cases hv; cases hw; exact PySem.W.eq_bytes (by rw [bI_beq]; exact hQ _ _ _ _ _ _ h (.refl _) List.prefix_rfl S (.bool _))
theorem Op.neb (h : K (.bool (ns != ms)) μ) : Op [.bytes ns, .bytes ms] (fun vs => compareOp .NotEq (vs.getD 0 .none) (vs.getD 1 .none)) μ K :=
  Op.two fun B a Δ ok C ρ s v w S hv hw Q E hQ => by cases hv; cases hw; exact PySem.W.ne_bytes (by rename_i b t c u; show Q (.bool (!(b.toList == c.toList))) _; rw [bI_beq]; exact hQ _ _ _ _ _ _ h (.refl _) List.prefix_rfl S (.bool _))
end

/-- a new cold sequence -/
theorem St.newSeq {B : Bs} {a : Act} {Δ : DE} {C : Cold} {ρ : List Addr} {μ : List MO} {s : Shared} (S : St B a Δ C ρ μ s) {cl : String} {vs : List Value} {n : Nat} {tk : Nat} :
    let C' := C.put s.heap.objs.size (true, { cls := .type cl, data := .seq vs.toArray n })
    C.le C' ∧ C' s.heap.objs.size = some (true, { cls := .type cl, data := .seq vs.toArray n }) ∧ St B a Δ C' ρ μ { s with heap := s.heap.push { cls := .type cl, data := .seq vs.toArray n }, toks := tk } := by
  intro C'
  have q := S.put (h' := s.heap.push { cls := .type cl, data := .seq vs.toArray n }) (tk := tk) (fun _ _ e => Heap.get?_push_of_some _ e) (Nat.le_refl _)
    (p := (true, { cls := .type cl, data := .seq vs.toArray n })) ⟨_, Heap.get?_push_size _ rfl, .rfl _⟩
  exact ⟨q.1, Cold.put_self _ _ _, q.2⟩

section
variable {B : Bs} {a : Act} {Δ : DE} {μ : List MO} {K : D → List MO → Prop} {pos p : Pos} {k : Nat}

theorem Rd.isList {C : Cold} {h : Heap} {v : Value} {ds : List D} (r : Rd C v (.list ds)) (ci : C.In h) : ∃ l vs, v = .ref l ∧ h.IsList l vs.toArray ∧ RdAll C vs ds := by
  obtain ⟨_, _, _, _, rfl, e, c, _, d, r⟩ := r.listI
  obtain ⟨o, ho, hc, hd, _⟩ := ci _ _ e; exact ⟨_, _, rfl, ⟨o, ho, hc.trans c, _, hd.trans d⟩, r⟩
theorem Rd.isTup {C : Cold} {h : Heap} {v : Value} {ds : List D} (r : Rd C v (.tuple ds)) (ci : C.In h) : ∃ l vs, v = .ref l ∧ IsTup h l vs.toArray ∧ RdAll C vs ds := by
  obtain ⟨_, _, _, _, rfl, e, c, d, r⟩ := r.tupI
  obtain ⟨o, ho, hc, hd, _⟩ := ci _ _ e; exact ⟨_, _, rfl, ⟨o, ho, hc.trans c, _, hd.trans d⟩, r⟩

/-- items by an index -/
noncomputable def pyGet {α : Type} (l : List α) (i : Int) : Option α := if 0 ≤ i then l[i.toNat]? else if -(l.length : Int) ≤ i then l[(i + l.length).toNat]? else none
@[reducible] noncomputable def Item (μ : List MO) : D → D → (D → Prop) → Prop
  | .list ds, .int i, K => ∃ d, pyGet ds i = some d ∧ ds.length < 2 ^ 60 ∧ K d
  | .tuple ds, .int i, K => ∃ d, pyGet ds i = some d ∧ ds.length < 2 ^ 60 ∧ K d
  | .bytes ns, .int i, K => ∃ n, ns[i.toNat]? = some n ∧ 0 ≤ i ∧ ns.length ≤ 1099511627776 ∧ K (.int n)
  | .obj k, .int i, K => ∃ ds d, μ[k]? = some (.list ds) ∧ pyGet ds i = some d ∧ ds.length < 2 ^ 60 ∧ K d
  | _, _, _ => False

theorem getItem_any {C : Cold} {vs : List Value} {ds : List D} {M : Program} {w : World} {A : Around} {l : Addr} {i : Int} {t : Tok} {d : D} {Q : Value → Shared → Prop} {E : Value → Shared → Prop} {s : Shared} (hl : s.heap.IsList l vs.toArray) (r : RdAll C vs ds)
    (hd : pyGet ds i = some d) (hz : ds.length < 2 ^ 60) (h : ∀ v, Rd C v d → Q v s) : wpAny (model M w) A (getItem (.ref l) (.int i t)) Q E s := by
  have hlen := r.length
  unfold pyGet at hd
  split at hd
  · rename_i h0
    obtain ⟨v, hv, q⟩ := r.get hd
    have := (List.getElem?_eq_some_iff.mp hd).1
    exact wpAny_getItem_list hl h0 (by (exact ob10 this hz)) (by simpa using hv) (h v q)
  · split at hd
    · rename_i h0 h1
      obtain ⟨v, hv, q⟩ := r.get hd
      exact wpAny_getItem_list_neg hl (by (exact Int.not_le.mp h0)) (by rw [List.size_toArray, hlen]; exact h1) (by (exact ob11 h1 hz)) (by rw [List.size_toArray, hlen]; simpa using hv) (h v q)
    · cases hd
theorem getItem_anyT {C : Cold} {vs : List Value} {ds : List D} {M : Program} {w : World} {A : Around} {l : Addr} {i : Int} {t : Tok} {d : D} {Q : Value → Shared → Prop} {E : Value → Shared → Prop} {s : Shared} (hl : IsTup s.heap l vs.toArray) (r : RdAll C vs ds)
    (hd : pyGet ds i = some d) (hz : ds.length < 2 ^ 60) (h : ∀ v, Rd C v d → Q v s) : wpAny (model M w) A (getItem (.ref l) (.int i t)) Q E s := by
  have hlen := r.length
  unfold pyGet at hd
  split at hd
  · rename_i h0
    obtain ⟨v, hv, q⟩ := r.get hd
    have hlt := (List.getElem?_eq_some_iff.mp hd).1
    refine PyProof.Rows.getItem_tuple (j := i.toNat) hl (by (exact ob12 h0)) (by (exact ob10 hlt hz)) ?_ (by simpa using hv) (h v q)
    have e1 : ¬ (i < 0) := by (exact ob13 h0)
    have e2 : (decide (0 ≤ i) && decide (i < (ds.length : Int))) = true := by simp only [Bool.and_eq_true, decide_eq_true_eq]; (exact ob14 h0 hlt)
    simp only [seqIndex?, List.size_toArray, hlen, e1, if_false, e2, if_true]
  · split at hd
    · rename_i h0 h1
      obtain ⟨v, hv, q⟩ := r.get hd
      refine PyProof.Rows.getItem_tuple (j := (i + ds.length).toNat) hl (by (exact ob11 h1 hz)) (by (exact ob15 h0)) ?_ (by simpa using hv) (h v q)
      have e1 : i < 0 := by (exact Int.not_le.mp h0)
      have e2 : (decide (0 ≤ i + (ds.length : Int)) && decide (i + (ds.length : Int) < (ds.length : Int))) = true := by simp only [Bool.and_eq_true, decide_eq_true_eq]; (exact ob16 h1 h0)
      simp only [seqIndex?, List.size_toArray, hlen, e1, if_true, e2]
    · cases hd

theorem Ev.item {value slice : Expr} (h : Ev B a Δ μ value fun d1 μ1 => Ev B a Δ μ1 slice fun d2 μ2 => Item μ2 d1 d2 fun d => K d μ2)
    (hs : ∀ o i, subscripted slice false o i = operate [o, i] (getItem o i) := by intro _ _; with_unfolding_all rfl) : Ev B a Δ μ (.Subscript value slice pos) K := fun ok C ρ s S Q E hQ hE =>
  PyProof.Rows.Subscript_ (h ok C ρ s S _ E (fun v1 d1 C1 ρ1 μ1 s1 k1 c1 p1 S1 r1 => k1 ok C1 ρ1 s1 S1 _ E (fun v2 d2 C2 ρ2 μ2 s2 k2 c2 p2 S2 r2 => by
    replace r1 := r1.mono c2 p2
    have fin : ∀ v d, K d μ2 → VRd C2 ρ2 v d → Q v s2 := fun v d hk r => hQ v d C2 ρ2 μ2 s2 hk (c1.trans c2) (p1.trans p2) S2 r
    cases d2 <;> first | (cases d1 <;> exact k2.elim) | skip
    cases d1 <;> try exact k2.elim
    · rename_i i
      obtain ⟨ti, rfl⟩ := Rd.intI r2
      obtain ⟨n, hn, h0, hz, hk⟩ := k2
      obtain ⟨b, t, rfl, rfl⟩ := Rd.bytesI r1
      have hlt := (List.getElem?_eq_some_iff.mp hn).1
      have hg : ∀ j : Nat, (KBw.bInts b)[j]? = some n → (KBw.bInts b).getD j 0 = n := fun j hj => by rw [List.getD_eq_getElem?_getD, hj]; rfl
      refine KBw.item_K rfl hz h0 ?_ (fun t' k _ _ => ?_) (hs _ _) (fun _ => by cases value <;> rfl)
      · (exact ob17 hlt)
      rw [hg _ hn]
      exact hQ _ _ C2 ρ2 μ2 _ hk (c1.trans c2) (p1.trans p2) (S2.tok _) (.int _ _)
    · obtain ⟨_, rfl⟩ := Rd.intI r2
      obtain ⟨d, hd, hz, hk⟩ := k2
      obtain ⟨l, vs, rfl, hl, r⟩ := Rd.isTup r1 S2.cold
      exact PyProof.Rows.tail_any hl.typeIs slot_tuple_getitem.lookup (getItem_anyT hl r hd hz fun v q => fin v d hk (.of q)) (hs _ _)
    · obtain ⟨_, rfl⟩ := Rd.intI r2
      obtain ⟨d, hd, hz, hk⟩ := k2
      obtain ⟨l, vs, rfl, hl, r⟩ := Rd.isList r1 S2.cold
      exact PyProof.Rows.tail_any hl.typeIs slot_list_getitem.lookup (getItem_any hl r hd hz fun v q => fin v d hk (.of q)) (hs _ _)
    · obtain ⟨_, rfl⟩ := Rd.intI r2
      obtain ⟨ds, d, hm, hd, hz, hk⟩ := k2
      obtain ⟨l, hl, rfl⟩ := r1
      obtain ⟨o, vs, n, ho, hc, hdd, r, _⟩ := S2.mu.at_ _ _ _ hl hm
      have hL : s2.heap.IsList l vs.toList.toArray := ⟨o, ho, hc, n, by simpa using hdd⟩
      exact PyProof.Rows.tail_any hL.typeIs slot_list_getitem.lookup (getItem_any hL r hd hz fun v q => fin v d hk (.of q)) (hs _ _)) (hE.mono c1)) hE)
end
/-! B5 -/
theorem lookup_cons (Δ : DE) (x y : Str) (d : D) : ((x, d) :: Δ).lookup y = if y = x then some d else Δ.lookup y := by
  rw [List.lookup_cons]
  by_cases h : y = x
  · subst h; simp
  · rw [if_neg h, beq_false_of_ne h]

section
variable {B : Bs} {a : Act} {Δ Δ' : DE} {C C' : Cold} {ρ : List Addr} {μ : List MO} {s : Shared}

theorem St.muNe (S : St B a Δ C ρ μ s) {b : Addr} {o : Obj} (ho : s.heap.get? b = some o) (hn : (∃ es n, o.data = .dict es n) ∨ (∃ v, o.data = .cell v) ∨ ∃ vs, o.data = .fields vs) {i : Nat} {c : Addr} {m : MO} (e : ρ[i]? = some c) (f : μ[i]? = some m) (l : m.live = true) : c ≠ b := by
  rintro rfl
  obtain ⟨o', ho', n1, n2, n3⟩ := (S.mu.at_ i c m e f).has l
  rw [ho] at ho'; cases ho'
  rcases hn with ⟨es, n, h⟩ | ⟨v, h⟩ | ⟨vs, h⟩
  · exact n2 _ _ h
  · exact n3 _ h
  · exact n1 _ h

/-- one object changed that is neither cold nor of the base nor a changed one of ours -/
theorem St.change (S : St B a Δ C ρ μ s) {b : Addr} {o : Obj} {h' : Heap} {tk : Nat} (hs : Heap.SameBut b s.heap h') (ho : s.heap.get? b = some o) (hn : (∃ es n, o.data = .dict es n) ∨ (∃ v, o.data = .cell v))
    (hC : C b = none) (hB : B.s₀.heap.get? b = none)
    (hw : ∀ p ∈ a.W, ∃ v, h'.IsCell p.2 v)
    (hns : ∃ m, h'.Ns a.env.locals m ∧ ∀ x d, Δ'.lookup x = some d → ∃ v, VRd C ρ v d ∧ Bnd h' a.env m x v) : St B a Δ' C ρ μ { s with heap := h', toks := tk } where
  base := S.base.to fun c o e => (hs.2 c fun q => by rw [q, hB] at e; cases e).trans (S.base.keep c o e)
  cold := fun c p e => by
    obtain ⟨o', h1, r⟩ := S.cold c p e
    exact ⟨o', (hs.2 c fun q => by rw [q, hC] at e; cases e).trans h1, r⟩
  mu := { len := S.mu.len, inj := S.mu.inj, new := S.mu.new
          at_ := fun i c m e f => by
            cases l : m.live with
            | false => cases m <;> first | trivial | cases l
            | true => exact (S.mu.at_ i c m e f).keeps (.refl _) fun o' h1 => (hs.2 c (S.muNe ho (hn.imp_right .inl) e f l)).trans h1 }
  nL := S.nL
  bL := S.bL
  nW := fun p hp => ⟨(S.nW p hp).1, (S.nW p hp).2.1, hw p hp⟩
  ns := hns
  outer := S.outer
  its := fun p hp => by
    obtain ⟨x1, x2, x3, x4, x5, x6⟩ := S.its p hp
    refine ⟨x1, x2, (hs.2 p.1 fun q => ?_).trans x3, x4, x5, x6⟩
    rw [q, ho] at x3; cases x3
    rcases hn with ⟨es, n, h⟩ | ⟨v, h⟩
    · exact x4 _ _ h
    · exact x5 _ h
  itn := S.itn

noncomputable def StoreOk (a : Act) (x : Str) : Prop := a.env.kindOf x = some .local ∨ (a.env.kindOf x = some .cell ∧ ∃ c, (x, c) ∈ a.W ∧ a.env.cells.lookup x = some c)

theorem wp_store {M : Model} {A : Around} {x : Str} {v : Value} {d : D} {Q : Unit → Shared → Prop} {E : Value → Shared → Prop} (ok : ActOk B a) (S : St B a Δ C ρ μ s) (hx : StoreOk a x) (hv : VRd C ρ v d)
    (hQ : ∀ s', St B a ((x, d) :: Δ) C ρ μ s' → Q () s') : wpAny M A (storeName a.env x v) Q E s := by
  obtain ⟨m, hn, hm⟩ := S.ns
  obtain ⟨oL, es, ep, hoL, hdL, _⟩ := id hn
  rcases hx with hk | ⟨hk, c, hcW, hc⟩
  · refine wpAny_storeName_local hk hn (fun h' hn' hs => hQ _ (S.change hs hoL (.inl ⟨_, _, hdL⟩) S.nL S.bL (fun p hp => ?_) ⟨_, hn', fun y d' e => ?_⟩)) (by rw [ok.kind]; rfl)
    · obtain ⟨_, _, v, o, ho, hd⟩ := S.nW p hp
      exact ⟨v, o, (hs.2 _ fun q => by rw [q, hoL] at ho; cases ho; rw [hdL] at hd; cases hd).trans ho, hd⟩
    · rw [lookup_cons] at e
      by_cases hy : y = x
      · rw [if_pos hy] at e; cases e; subst hy
        exact ⟨v, hv, .inl ⟨hk, by simp⟩⟩
      · rw [if_neg hy] at e
        obtain ⟨u, hu, hb⟩ := hm y d' e
        refine ⟨u, hu, ?_⟩
        rcases hb with ⟨k1, k2⟩ | ⟨k1, c, k2, o, ho, hd⟩
        · exact .inl ⟨k1, by simp [hy, k2]⟩
        · exact .inr ⟨k1, c, k2, o, (hs.2 _ fun q => by rw [q, hoL] at ho; cases ho; rw [hdL] at hd; cases hd).trans ho, hd⟩
  · obtain ⟨w1, w2, v0, oc, hoc, hdc⟩ := S.nW _ hcW
    dsimp only at w1 w2 hoc
    refine wpAny_storeName_cell ok.kind hk hc ⟨oc, hoc, hdc⟩ fun h' hc' hs => hQ _ (S.change (tk := s.toks) hs hoc (.inr ⟨_, hdc⟩) w1 w2 (fun p hp => ?_) ⟨m, ?_, fun y d' e => ?_⟩)
    · by_cases hpc : p.2 = c
      · rw [hpc]; exact ⟨_, hc'⟩
      · obtain ⟨_, _, v, o, ho, hd⟩ := S.nW p hp
        exact ⟨v, o, (hs.2 _ hpc).trans ho, hd⟩
    · exact hn.sameBut hs fun q => by rw [q, hoc] at hoL; cases hoL; rw [hdc] at hdL; cases hdL
    · rw [lookup_cons] at e
      by_cases hy : y = x
      · rw [if_pos hy] at e; cases e; subst hy
        exact ⟨v, hv, .inr ⟨hk, c, hc, hc'⟩⟩
      · rw [if_neg hy] at e
        obtain ⟨u, hu, hb⟩ := hm y d' e
        refine ⟨u, hu, ?_⟩
        rcases hb with hb | ⟨k1, c', k2, o, ho, hd⟩
        · exact .inl hb
        · exact .inr ⟨k1, c', k2, o, (hs.2 _ fun q => hy (ok.apart y x c (by rw [← q]; exact k2) hc)).trans ho, hd⟩

theorem getElem_set {α : Type} {l : List α} {k i : Nat} {x y : α} (h : (l.set k x)[i]? = some y) : (i = k ∧ y = x) ∨ (i ≠ k ∧ l[i]? = some y) := by
  by_cases e : i = k
  · subst e
    rw [List.getElem?_set_self'] at h
    cases q : l[i]? with
    | none => rw [q] at h; simp at h
    | some z => rw [q] at h; simp at h; exact .inl ⟨rfl, h.symm⟩
  · rw [List.getElem?_set_ne (Ne.symm e)] at h; exact .inr ⟨e, h⟩

/-- a changed object is changed -/
theorem St.setM (S : St B a Δ C ρ μ s) {k : Nat} {b : Addr} {m m' : MO} (hb : ρ[k]? = some b) (hm : μ[k]? = some m) (l : m.live = true) {h' : Heap} {tk : Nat} (hs : Heap.SameBut b s.heap h') (hm' : MAt C h' b m') :
    St B a Δ C ρ (μ.set k m') { s with heap := h', toks := tk } := by
  obtain ⟨hC, hB⟩ := S.mu.new k b m hb hm l
  obtain ⟨o, ho, n1, n2, n3⟩ := (S.mu.at_ k b m hb hm).has l
  have klen : k < ρ.length := (List.getElem?_eq_some_iff.mp hb).1
  have neL : a.env.locals ≠ b := by
    rintro q; obtain ⟨_, ⟨oL, es, ep, hoL, hdL, _⟩, _⟩ := S.ns
    rw [q, ho] at hoL; cases hoL; exact n2 _ _ hdL
  have neC : ∀ c v, s.heap.IsCell c v → c ≠ b := by
    rintro c v ⟨oc, hoc, hdc⟩ rfl; rw [ho] at hoc; cases hoc; exact n3 _ hdc
  exact {
    base := S.base.to fun c o e => (hs.2 c fun q => by rw [q, hB] at e; cases e).trans (S.base.keep c o e)
    cold := fun c p e => by
      obtain ⟨o', h1, r⟩ := S.cold c p e
      exact ⟨o', (hs.2 c fun q => by rw [q, hC] at e; cases e).trans h1, r⟩
    mu := { len := by rw [List.length_set]; exact S.mu.len
            inj := fun i j c o1 o2 e1 e2 f1 f2 l1 l2 => by
              have q : ∀ {i : Nat} {o1 : MO}, (μ.set k m')[i]? = some o1 → o1.live = true → ∃ o, μ[i]? = some o ∧ o.live = true := fun f l1 => by
                rcases getElem_set f with ⟨rfl, rfl⟩ | ⟨hne, f⟩
                · exact ⟨m, hm, l⟩
                · exact ⟨_, f, l1⟩
              obtain ⟨x1, y1, z1⟩ := q f1 l1
              obtain ⟨x2, y2, z2⟩ := q f2 l2
              exact S.mu.inj i j c x1 x2 e1 e2 y1 y2 z1 z2
            new := fun i c o' e f l' => by
              rcases getElem_set f with ⟨rfl, rfl⟩ | ⟨hne, f⟩
              · rw [hb] at e; cases e; exact ⟨hC, hB⟩
              · exact S.mu.new i c o' e f l'
            at_ := fun i c o' e f => by
              rcases getElem_set f with ⟨rfl, rfl⟩ | ⟨hne, f⟩
              · rw [hb] at e; cases e; exact hm'
              · cases l1 : o'.live with
                | false => cases o' <;> first | trivial | cases l1
                | true => exact (S.mu.at_ i c o' e f).keeps (.refl _) fun o'' h1 => (hs.2 c fun q => hne (S.mu.inj i k c o' m e (q ▸ hb) f hm l1 l)).trans h1 }
    nL := S.nL
    bL := S.bL
    nW := fun p hp => by
      obtain ⟨x1, x2, v, hv⟩ := S.nW p hp
      exact ⟨x1, x2, v, hv.sameBut hs (neC _ _ hv)⟩
    ns := by
      obtain ⟨m, hn, q⟩ := S.ns
      refine ⟨m, hn.sameBut hs neL, fun x d e => ?_⟩
      obtain ⟨v, hv, hb'⟩ := q x d e
      refine ⟨v, hv, ?_⟩
      rcases hb' with hb' | ⟨k1, c, k2, hc⟩
      · exact .inl hb'
      · exact .inr ⟨k1, c, k2, hc.sameBut hs (neC _ _ hc)⟩
    outer := S.outer
    itn := S.itn
    its := fun p hp => by
      obtain ⟨x1, x2, x3, x4, x5, x6⟩ := S.its p hp
      refine ⟨x1, x2, (hs.2 p.1 fun q => x6 k b m hb hm l q.symm).trans x3, x4, x5, fun i c o e f l' => ?_⟩
      rcases getElem_set f with ⟨rfl, rfl⟩ | ⟨hne, f⟩
      · rw [hb] at e; cases e; exact x6 _ _ m hb hm l
      · exact x6 i c o e f l' }

/-- a changed object is changed no more: it joins the cold ones -/
theorem St.freeze (S : St B a Δ C ρ μ s) {k : Nat} {b : Addr} {m : MO} (hb : ρ[k]? = some b) (hm : μ[k]? = some m) (l : m.live = true) {p : Bool × Obj} (hp : Has s.heap b p) :
    C.le (C.put b p) ∧ St B a Δ (C.put b p) ρ (μ.set k .dead) s := by
  obtain ⟨hC, hB⟩ := S.mu.new k b m hb hm l
  obtain ⟨o, ho, n1, n2, n3⟩ := (S.mu.at_ k b m hb hm).has l
  have le := Cold.le_put (p := p) hC
  have neL : a.env.locals ≠ b := by
    rintro q; obtain ⟨_, ⟨oL, es, ep, hoL, hdL, _⟩, _⟩ := S.ns
    rw [q, ho] at hoL; cases hoL; exact n2 _ _ hdL
  have neC : ∀ c v, s.heap.IsCell c v → c ≠ b := by
    rintro c v ⟨oc, hoc, hdc⟩ rfl; rw [ho] at hoc; cases hoc; exact n3 _ hdc
  refine ⟨le, {
    base := S.base
    cold := fun c q e => by
      by_cases h : c = b
      · subst h; rw [Cold.put_self] at e; cases e; exact hp
      · rw [Cold.put_ne _ _ h] at e; exact S.cold c q e
    mu := { len := by rw [List.length_set]; exact S.mu.len
            inj := fun i j c o1 o2 e1 e2 f1 f2 l1 l2 => by
              have q : ∀ {i : Nat} {o1 : MO}, (μ.set k .dead)[i]? = some o1 → o1.live = true → μ[i]? = some o1 := fun f l1 => by
                rcases getElem_set f with ⟨rfl, rfl⟩ | ⟨hne, f⟩
                · cases l1
                · exact f
              exact S.mu.inj i j c o1 o2 e1 e2 (q f1 l1) (q f2 l2) l1 l2
            new := fun i c o' e f l' => by
              rcases getElem_set f with ⟨rfl, rfl⟩ | ⟨hne, f⟩
              · cases l'
              · have hcb : c ≠ b := fun q => hne (S.mu.inj i k c o' m e (q ▸ hb) f hm l' l)
                rw [Cold.put_ne _ _ hcb]; exact S.mu.new i c o' e f l'
            at_ := fun i c o' e f => by
              rcases getElem_set f with ⟨rfl, rfl⟩ | ⟨hne, f⟩
              · trivial
              · exact (S.mu.at_ i c o' e f).keeps le fun o'' h1 => h1 }
    nL := by rw [Cold.put_ne _ _ neL]; exact S.nL
    bL := S.bL
    nW := fun q hq => by
      obtain ⟨x1, x2, v, hv⟩ := S.nW q hq
      exact ⟨by rw [Cold.put_ne _ _ (neC _ _ hv)]; exact x1, x2, v, hv⟩
    ns := by
      obtain ⟨m, hn, q⟩ := S.ns
      refine ⟨m, hn, fun x d e => ?_⟩
      obtain ⟨v, hv, hb'⟩ := q x d e
      exact ⟨v, hv.mono le List.prefix_rfl, hb'⟩
    outer := fun l e => (S.outer l e).mono le
    itn := S.itn
    its := fun q hq => by
      obtain ⟨x1, x2, x3, x4, x5, x6⟩ := S.its q hq
      refine ⟨by rw [Cold.put_ne _ _ (fun e => x6 k b m hb hm l e.symm)]; exact x1, x2, x3, x4, x5, fun i c o e f l' => ?_⟩
      rcases getElem_set f with ⟨rfl, rfl⟩ | ⟨hne, f⟩
      · cases l'
      · exact x6 i c o e f l' }⟩
end

noncomputable def VAll (C : Cold) (ρ : List Addr) : List Value → List D → Prop
  | [], [] => True
  | v :: vs, d :: ds => VRd C ρ v d ∧ VAll C ρ vs ds
  | _, _ => False
theorem VAll.mono {C C' : Cold} {ρ ρ' : List Addr} (x : C.le C') (y : ρ <+: ρ') : ∀ {vs : List Value} {ds : List D}, VAll C ρ vs ds → VAll C' ρ' vs ds
  | [], [], _ => trivial
  | _ :: _, _ :: _, ⟨h, r⟩ => ⟨h.mono x y, VAll.mono x y r⟩
  | [], _ :: _, h => h.elim
  | _ :: _, [], h => h.elim
theorem VAll.rd {C : Cold} {ρ : List Addr} : ∀ {vs : List Value} {ds : List D}, VAll C ρ vs ds → ds.all D.tree = true → RdAll C vs ds
  | [], [], _, _ => .nil
  | _ :: _, _ :: _, ⟨h, r⟩, t => by rw [List.all_cons, Bool.and_eq_true] at t; exact .cons (h.rd t.1) (VAll.rd r t.2)
  | [], _ :: _, h, _ => h.elim
  | _ :: _, [], h, _ => h.elim
theorem VAll.of {C : Cold} {ρ : List Addr} {vs : List Value} {ds : List D} (h : RdAll C vs ds) : VAll C ρ vs ds :=
  @RdAll.rec C (fun _ _ _ => True) (fun vs ds _ => VAll C ρ vs ds) trivial (fun _ => trivial) (fun _ _ => trivial) (fun _ _ => trivial) (fun _ _ => trivial) (fun _ _ _ _ _ => trivial) (fun _ _ _ _ _ _ => trivial) (fun _ _ _ => trivial) trivial (fun h _ _ r => ⟨.of h, r⟩) vs ds h
theorem VAll.nilv {C : Cold} {ρ : List Addr} {vs : List Value} (h : VAll C ρ vs []) : vs = [] := by cases vs with
  | nil => rfl
  | cons _ _ => exact h.elim
theorem VAll.consv {C : Cold} {ρ : List Addr} {vs : List Value} {d : D} {ds : List D} (h : VAll C ρ vs (d :: ds)) : ∃ v ws, vs = v :: ws ∧ VRd C ρ v d ∧ VAll C ρ ws ds := by cases vs with
  | nil => exact h.elim
  | cons v ws => exact ⟨v, ws, rfl, h⟩
theorem VAll.onev {C : Cold} {ρ : List Addr} {vs : List Value} {d : D} (h : VAll C ρ vs [d]) : ∃ v, vs = [v] ∧ VRd C ρ v d := by
  obtain ⟨v, ws, rfl, h1, h2⟩ := h.consv
  cases h2.nilv
  exact ⟨v, rfl, h1⟩
theorem VAll.twov {C : Cold} {ρ : List Addr} {vs : List Value} {d e : D} (h : VAll C ρ vs [d, e]) : ∃ v w, vs = [v, w] ∧ VRd C ρ v d ∧ VRd C ρ w e := by
  obtain ⟨v, ws, rfl, h1, h2⟩ := h.consv
  obtain ⟨w, rfl, h3⟩ := h2.onev
  exact ⟨v, w, rfl, h1, h3⟩
theorem VAll.length {C : Cold} {ρ : List Addr} : ∀ {vs : List Value} {ds : List D}, VAll C ρ vs ds → vs.length = ds.length
  | [], [], _ => rfl
  | _ :: _, _ :: _, ⟨h, r⟩ => by rw [List.length_cons, List.length_cons, VAll.length r]
  | [], _ :: _, h => h.elim
  | _ :: _, [], h => h.elim

noncomputable def noStar : List Expr → Bool
  | [] => true
  | e :: r => (starEach [e] default).all (fun x => !x.1) && noStar r
noncomputable def EvL (B : Bs) (a : Act) (Δ : DE) : List Expr → List MO → (List D → List MO → Prop) → Prop
  | [], μ, K => K [] μ
  | e :: r, μ, K => Ev B a Δ μ e fun d μ1 => EvL B a Δ r μ1 fun ds μ2 => K (d :: ds) μ2
theorem EvL.nil {B : Bs} {a : Act} {Δ : DE} {μ : List MO} {K : List D → List MO → Prop} (h : K [] μ) : EvL B a Δ [] μ K := h
theorem EvL.cons {B : Bs} {a : Act} {Δ : DE} {μ : List MO} {e : Expr} {r : List Expr} {K : List D → List MO → Prop} (h : Ev B a Δ μ e fun d μ1 => EvL B a Δ r μ1 fun ds μ2 => K (d :: ds) μ2) : EvL B a Δ (e :: r) μ K := h
theorem starEach_cons {e : Expr} {r : List Expr} {env : Env} (h : noStar (e :: r) = true) : starEach (e :: r) env = (false, eval e env) :: starEach r env := by
  cases e <;> first | rfl | cases h
theorem noStar_tail {e : Expr} {r : List Expr} (h : noStar (e :: r) = true) : noStar r = true := ((Bool.and_eq_true _ _).mp h).2

section
variable {B : Bs} {a : Act} {Δ : DE} {μ : List MO} {K : D → List MO → Prop} {pos p : Pos} {k : Nat}

theorem evL_wp {ps : Pos} : ∀ {es : List Expr} {μ : List MO} {KL : List D → List MO → Prop}, EvL B a Δ es μ KL → noStar es = true → ActOk B a → ∀ C ρ s, St B a Δ C ρ μ s → ∀ Q E,
    (∀ vs ds C' ρ' μ' s', KL ds μ' → C.le C' → ρ <+: ρ' → St B a Δ C' ρ' μ' s' → VAll C' ρ' vs ds → Q vs s') → FltOk B (sfC B) a C E → wpAny (model pw B.w) a.A (spliced (backTo ps (starEach es a.env))) Q E s
  | [], μ, KL, h, _, ok, C, ρ, s, S, Q, E, hQ, hE => Calls.spliced_nil (hQ [] [] C ρ μ s h (.refl _) List.prefix_rfl S trivial)
  | e :: r, μ, KL, h, hs, ok, C, ρ, s, S, Q, E, hQ, hE => by
    rw [starEach_cons hs]
    show wpAny _ _ (spliced ((false, eval e a.env) :: backTo ps (starEach r a.env))) _ _ _
    refine Calls.spliced_cons (h ok C ρ s S _ E (fun v d C1 ρ1 μ1 s1 k1 c1 p1 S1 r1 => ?_) hE)
    exact evL_wp k1 (noStar_tail hs) ok C1 ρ1 s1 S1 _ E (fun vs ds C2 ρ2 μ2 s2 k2 c2 p2 S2 r2 => hQ (v :: vs) (d :: ds) C2 ρ2 μ2 s2 k2 (c1.trans c2) (p1.trans p2) S2 ⟨r1.mono c2 p2, r2⟩) (hE.mono c1)

theorem Ev.list {es : List Expr} (h : EvL B a Δ es μ fun ds μ1 => ds.all D.tree = true ∧ ds.length ≤ 16777216 ∧ K (.list ds) μ1) (hs : noStar es = true := by rfl) : Ev B a Δ μ (.List es pos) K := fun ok C ρ s S Q E hQ hE => by
  refine wpAny_List (evL_wp h hs ok C ρ s S _ E (fun vs ds C1 ρ1 μ1 s1 k1 c1 p1 S1 r1 => ?_) hE)
  obtain ⟨x1, x2, x3⟩ := S1.newSeq (cl := "list") (vs := vs) (n := 0) (tk := s1.toks)
  exact ⟨by rw [r1.length, sizeLine_eq]; exact k1.2.1, hQ _ _ _ _ _ _ k1.2.2 (c1.trans x1) p1 x3 (.of (.list x2 rfl rfl rfl ((r1.rd k1.1).mono x1)))⟩
theorem Ev.tuple {es : List Expr} (h : EvL B a Δ es μ fun ds μ1 => ds.all D.tree = true ∧ ds.length ≤ 16777216 ∧ K (.tuple ds) μ1) (hs : noStar es = true := by rfl) : Ev B a Δ μ (.Tuple es k pos) K := fun ok C ρ s S Q E hQ hE => by
  refine wpAny_Tuple (evL_wp h hs ok C ρ s S _ E (fun vs ds C1 ρ1 μ1 s1 k1 c1 p1 S1 r1 => ?_) hE)
  obtain ⟨x1, x2, x3⟩ := S1.newSeq (cl := "tuple") (vs := vs) (n := 0) (tk := s1.toks)
  exact ⟨by rw [r1.length, sizeLine_eq]; exact k1.2.1, hQ _ _ _ _ _ _ k1.2.2 (c1.trans x1) p1 x3 (.of (.tuple x2 rfl rfl ((r1.rd k1.1).mono x1)))⟩
/-- a list that will be changed -/
theorem Ev.listM {es : List Expr} (h : EvL B a Δ es μ fun ds μ1 => ds.all D.tree = true ∧ ds.length ≤ 16777216 ∧ K (.obj μ1.length) (μ1 ++ [.list ds])) (hs : noStar es = true := by rfl) : Ev B a Δ μ (.List es pos) K := fun ok C ρ s S Q E hQ hE => by
  refine wpAny_List (evL_wp h hs ok C ρ s S _ E (fun vs ds C1 ρ1 μ1 s1 k1 c1 p1 S1 r1 => ?_) hE)
  have q := S1.putM (h' := s1.heap.push { cls := .type "list", data := .seq vs.toArray }) (tk := s1.toks) (fun _ _ e => Heap.get?_push_of_some _ e) (Nat.le_refl _) (by rw [Heap.size_push]; exact Nat.lt_succ_self _)
    (m := .list ds) ⟨_, _, 0, Heap.get?_push_size _ rfl, rfl, rfl, by simpa using r1.rd k1.1, rfl⟩
  refine ⟨by rw [r1.length, sizeLine_eq]; exact k1.2.1, hQ _ _ _ _ _ _ k1.2.2 c1 (p1.trans (List.prefix_append _ _)) q ⟨_, ?_, rfl⟩⟩
  rw [← S1.mu.len]; simp

/-- a name of a changed list is read, and the list is changed no more -/
theorem Ev.freeze {x : Str} {i : Nat} {ds : List D} (e : Δ.lookup x = some (.obj i)) (hm : μ[i]? = some (.list ds)) (h : K (.list ds) (μ.set i .dead)) (hd : (x == ("__debug__" : Str)) = false := by rfl) : Ev B a Δ μ (.Name x pos) K := fun ok C ρ s S Q E hQ _ =>
  wpAny_Name (wp_name ok S e fun v hv => by
    obtain ⟨b, hb, rfl⟩ := hv
    obtain ⟨o, vs, n, ho, hc, hdt, r, hdn⟩ := S.mu.at_ i b _ hb hm
    obtain ⟨le, S'⟩ := S.freeze hb hm rfl (p := (true, o)) ⟨o, ho, .rfl _⟩
    exact hQ _ _ _ _ _ _ h le List.prefix_rfl S' (.of (.list (vs := vs.toList) (by rw [Cold.put_self]) hc hdn (by simpa using hdt) (r.mono le)))) hd
theorem Ev.freezeB {x : Str} {i : Nat} {ns : List Int} (e : Δ.lookup x = some (.obj i)) (hm : μ[i]? = some (.barr ns)) (h : K (.barr ns) (μ.set i .dead)) (hd : (x == ("__debug__" : Str)) = false := by rfl) : Ev B a Δ μ (.Name x pos) K := fun ok C ρ s S Q E hQ _ =>
  wpAny_Name (wp_name ok S e fun v hv => by
    obtain ⟨b, hb, rfl⟩ := hv
    obtain ⟨o, y, ho, hc, hdt, rfl, _⟩ := S.mu.at_ i b _ hb hm
    obtain ⟨le, S'⟩ := S.freeze hb hm rfl (p := (true, o)) ⟨o, ho, .rfl _⟩
    exact hQ _ _ _ _ _ _ h le List.prefix_rfl S' (.of (.barr (by rw [Cold.put_self]) hc hdt))) hd

/-- cuts -/
noncomputable def sl {α : Type} (l : List α) (lo hi : Option Int) : List α := (l.drop (lo.elim 0 (clipAt l.length))).take (hi.elim l.length (clipAt l.length) - lo.elim 0 (clipAt l.length))
noncomputable def EvP (B : Bs) (a : Act) (Δ : DE) (μ : List MO) : Option Expr → (Option Int → List MO → Prop) → Prop
  | none, K => K none μ
  | some e, K => Ev B a Δ μ e fun d μ1 => ∃ i, d = .int i ∧ K (some i) μ1
theorem EvP.none {K : Option Int → List MO → Prop} (h : K Option.none μ) : EvP B a Δ μ Option.none K := h
theorem EvP.some {e : Expr} {K : Option Int → List MO → Prop} (h : Ev B a Δ μ e fun d μ1 => ∃ i, d = .int i ∧ K (Option.some i) μ1) : EvP B a Δ μ (Option.some e) K := h
theorem evP_wp {KP : Option Int → List MO → Prop} {o : Option Expr} (h : EvP B a Δ μ o KP) (ok : ActOk B a) {C ρ s} (S : St B a Δ C ρ μ s) {Q : Value → Shared → Prop} {E : Value → Shared → Prop}
    (hQ : ∀ v i C' ρ' μ' s', KP i μ' → C.le C' → ρ <+: ρ' → St B a Δ C' ρ' μ' s' → IsPart v i → Q v s') (hE : FltOk B (sfC B) a C E) : wpAny (model pw B.w) a.A (evalPart o a.env) Q E s := by
  cases o with
  | none => exact wpAny_evalPart_none (hQ _ none _ _ _ _ h (.refl _) List.prefix_rfl S .none)
  | some e => exact wpAny_evalPart_some (h ok C ρ s S Q E (fun v d C1 ρ1 μ1 s1 k1 c1 p1 S1 r1 => by
      obtain ⟨i, rfl, k1⟩ := k1
      obtain ⟨_, rfl⟩ := Rd.intI r1
      exact hQ _ _ _ _ _ _ k1 c1 p1 S1 (.int _ _)) hE)

@[reducible] noncomputable def Cut (μ : List MO) : D → Option Int → Option Int → (D → Prop) → Prop
  | .list ds, lo, hi, K => ds.length ≤ 16777216 ∧ K (.list (sl ds lo hi))
  | .obj k, lo, hi, K => ∃ ds, μ[k]? = some (.list ds) ∧ ds.length ≤ 16777216 ∧ K (.list (sl ds lo hi))
  | .bytes ns, lo, hi, K => ns.length ≤ 16777216 ∧ K (.bytes (sl ns lo hi))
  | _, _, _, _ => False
theorem slice_list {A : Around} {C : Cold} {ρ : List Addr} {s : Shared} {l : Addr} {vs : List Value} {ds : List D} {vl vu : Value} {lo hi : Option Int} {value : Expr} {lower upper : Option Expr} {Q : Value → Shared → Prop} {E : Value → Shared → Prop}
    (S : St B a Δ C ρ μ s) (hl : s.heap.IsList l vs.toArray) (r : RdAll C vs ds) (hz : ds.length ≤ 16777216) (pl : IsPart vl lo) (pu : IsPart vu hi)
    (hQ : ∀ v C' s', C.le C' → St B a Δ C' ρ μ s' → Rd C' v (.list (sl ds lo hi)) → Q v s') :
    wpAny (model pw B.w) A (subscriptTail value (.Slice lower upper none p) (.ref l) (.ref s.heap.objs.size)) Q E { s with heap := s.heap.push { cls := .type "slice", data := .fields #[vl, vu, .none] } } := by
  have hlen := r.length
  have hl1 : (s.heap.push { cls := .type "slice", data := .fields #[vl, vu, .none] }).IsList l vs.toArray := hl.push _
  have S1 := S.keep0 (h' := s.heap.push { cls := .type "slice", data := .fields #[vl, vu, .none] }) (tk := s.toks) (fun _ _ e => Heap.get?_push_of_some _ e)
  refine PyProof.Rows.tail_any (T := "list") hl1.typeIs slot_list_getitem.lookup (wpAny_getItem_list_slice hl1 (Heap.IsSliceOf.new _ _ _ _) pl pu .none (by simp) ?_ (by rw [List.size_toArray, hlen, sizeLine_eq]; exact hz)) rfl
  have e : slicePick vs.toArray lo hi none = (sl vs lo hi).toArray := by rw [slicePick_plain]; simp only [sl, List.size_toArray]
  rw [e]
  have rr : RdAll C (sl vs lo hi) (sl ds lo hi) := by unfold sl; rw [hlen]; exact (r.drop _).take _
  obtain ⟨x1, x2, x3⟩ := S1.newSeq (cl := "list") (vs := sl vs lo hi) (n := 0) (tk := s.toks)
  exact hQ _ _ _ x1 x3 (.list x2 rfl rfl rfl (rr.mono x1))

theorem Ev.cut {value : Expr} {lower upper : Option Expr} (h : Ev B a Δ μ value fun d1 μ1 => EvP B a Δ μ1 lower fun lo μ2 => EvP B a Δ μ2 upper fun hi μ3 => Cut μ3 d1 lo hi fun d => K d μ3) : Ev B a Δ μ (.Subscript value (.Slice lower upper none p) pos) K := fun ok C ρ s S Q E hQ hE =>
  PyProof.Rows.Subscript_ (h ok C ρ s S _ E (fun v1 d1 C1 ρ1 μ1 s1 k1 c1 p1 S1 r1 => wpAny_Slice (evP_wp k1 ok S1 (fun v2 lo C2 ρ2 μ2 s2 k2 c2 p2 S2 r2 => evP_wp k2 ok S2 (fun v3 hi C3 ρ3 μ3 s3 k3 c3 p3 S3 r3 => wpAny_evalPart_none (by
    replace r1 := r1.mono (c2.trans c3) (p2.trans p3)
    have c' := c1.trans (c2.trans c3)
    have p' := p1.trans (p2.trans p3)
    cases d1 <;> try exact k3.elim
    · cases r1
      rename_i b t
      have hz : b.size ≤ 16777216 := by have := k3.1; rwa [KBw.ints_length] at this
      refine PyProof.Rows.tail_any (typeIs_bytes _ _ _) FB.slot_bytes_getitem.lookup (getItem_meets (typeIs_bytes _ _ _) (by decide) FB.slot_bytes_getitem FB.entry_bytes_getitem (FB.args_bytes_getitem_2 _ _) (KBc.meets_slice2 b t _ r2 r3)
        ⟨Heap.IsSliceOf.new _ _ _ _, Nat.le_trans (KBc.size_picked_le b lo hi) (by rw [sizeLine_eq]; exact hz), fun t' k => ?_⟩) rfl
      refine hQ _ _ _ _ _ _ k3.2 c' p' (S3.keep0 (h' := s3.heap.push { cls := .type "slice", data := .fields #[v2, v3, .none] }) (tk := k) (fun _ _ e => Heap.get?_push_of_some _ e)) (.of ?_)
      have e : sl (KBw.bInts b) lo hi = KBw.bInts (KBy.picked b lo hi) := (KBc.ints_picked rfl lo hi).symm
      rw [e]; exact .bytes _ _
    · obtain ⟨l, vs, rfl, hl, r⟩ := Rd.isList r1 S3.cold
      exact slice_list S3 hl r k3.1 r2 r3 fun v C' s' le S' rd => hQ _ _ _ _ _ _ k3.2 (c'.trans le) p' S' (.of rd)
    · obtain ⟨ds, hm, hz, hk⟩ := k3
      obtain ⟨l, hl, rfl⟩ := r1
      obtain ⟨o, vs, n, ho, hc, hdd, r, _⟩ := S3.mu.at_ _ _ _ hl hm
      exact slice_list S3 (vs := vs.toList) ⟨o, ho, hc, n, by simpa using hdd⟩ r hz r2 r3 fun v C' s' le S' rd => hQ _ _ _ _ _ _ hk (c'.trans le) p' S' (.of rd))) (hE.mono (c1.trans c2))) (hE.mono c1))) hE)
end
/-! B6 -/
noncomputable def Ex1 (B : Bs) (a : Act) (Δ : DE) (μ : List MO) (st : Stmt) (Kn : DE → List MO → Prop) (Kr : D → List MO → Prop) : Prop :=
  ActOk B a → ∀ C ρ s, St B a Δ C ρ μ s → ∀ Q E,
    (∀ Δ' C' ρ' μ' s', Kn Δ' μ' → C.le C' → ρ <+: ρ' → St B a Δ' C' ρ' μ' s' → Q .next s') →
    (∀ v d Δ' C' ρ' μ' s', Kr d μ' → C.le C' → ρ <+: ρ' → St B a Δ' C' ρ' μ' s' → VRd C' ρ' v d → Q (.ret v) s') →
    FltOk B (sfC B) a C E → wpAny (model pw B.w) a.A (exec st a.env) Q E s
noncomputable def Ex (B : Bs) (a : Act) (Δ : DE) (μ : List MO) (ss : List Stmt) (Kn : DE → List MO → Prop) (Kr : D → List MO → Prop) : Prop :=
  ActOk B a → ∀ C ρ s, St B a Δ C ρ μ s → ∀ Q E,
    (∀ Δ' C' ρ' μ' s', Kn Δ' μ' → C.le C' → ρ <+: ρ' → St B a Δ' C' ρ' μ' s' → Q .next s') →
    (∀ v d Δ' C' ρ' μ' s', Kr d μ' → C.le C' → ρ <+: ρ' → St B a Δ' C' ρ' μ' s' → VRd C' ρ' v d → Q (.ret v) s') →
    FltOk B (sfC B) a C E → wpAny (model pw B.w) a.A (execs ss a.env) Q E s

section
variable {B : Bs} {a : Act} {Δ : DE} {μ : List MO} {Kn : DE → List MO → Prop} {Kr : D → List MO → Prop} {pos p : Pos}
theorem Ex.nil (h : Kn Δ μ) : Ex B a Δ μ [] Kn Kr := fun ok C ρ s S Q E hn hr hE => wpAny_execs_nil (hn _ _ _ _ _ h (.refl _) List.prefix_rfl S)
theorem Ex.cons {st : Stmt} {ss : List Stmt} (h : Ex1 B a Δ μ st (fun Δ1 μ1 => Ex B a Δ1 μ1 ss Kn Kr) Kr) : Ex B a Δ μ (st :: ss) Kn Kr := fun ok C ρ s S Q E hn hr hE => by
  refine wpAny_execs_cons (h ok C ρ s S _ E (fun Δ1 C1 ρ1 μ1 s1 k1 c1 p1 S1 => ?_) (fun v d Δ1 C1 ρ1 μ1 s1 k1 c1 p1 S1 r1 => ?_) hE)
  · exact k1 ok C1 ρ1 s1 S1 Q E (fun Δ' C' ρ' μ' s' k c p => hn Δ' C' ρ' μ' s' k (c1.trans c) (p1.trans p)) (fun v d Δ' C' ρ' μ' s' k c p => hr v d Δ' C' ρ' μ' s' k (c1.trans c) (p1.trans p)) (hE.mono c1)
  · exact hr v d Δ1 C1 ρ1 μ1 s1 k1 c1 p1 S1 r1
theorem Ex.mono {Kn' : DE → List MO → Prop} {Kr' : D → List MO → Prop} {ss : List Stmt} (h : Ex B a Δ μ ss Kn' Kr') (hn : ∀ Δ μ, Kn' Δ μ → Kn Δ μ) (hr : ∀ d μ, Kr' d μ → Kr d μ) : Ex B a Δ μ ss Kn Kr := fun ok C ρ s S Q E h1 h2 hE =>
  h ok C ρ s S Q E (fun Δ' C' ρ' μ' s' k => h1 _ _ _ _ _ (hn _ _ k)) (fun v d Δ' C' ρ' μ' s' k => h2 _ _ _ _ _ _ _ (hr _ _ k)) hE
theorem Ex.weak {Δ' : DE} {ss : List Stmt} (h : Ex B a Δ' μ ss Kn Kr) (w : ∀ x d, Δ'.lookup x = some d → Δ.lookup x = some d) : Ex B a Δ μ ss Kn Kr := fun ok C ρ s S Q E h1 h2 hE => h ok C ρ s (S.weak w) Q E h1 h2 hE

theorem Ex1.ret {e : Expr} (h : Ev B a Δ μ e Kr) : Ex1 B a Δ μ (.Return (some e) pos) Kn Kr := fun ok C ρ s S Q E hn hr hE =>
  wpAny_Return_some (h ok C ρ s S _ E (fun v d C1 ρ1 μ1 s1 k1 c1 p1 S1 r1 => hr v d Δ C1 ρ1 μ1 s1 k1 c1 p1 S1 r1) hE)
theorem Ex1.ife {t : Expr} {b o : List Stmt} (h : EvB B a Δ μ t fun c μ1 => if c then Ex B a Δ μ1 b Kn Kr else Ex B a Δ μ1 o Kn Kr) : Ex1 B a Δ μ (.If t b o pos) Kn Kr := fun ok C ρ s S Q E hn hr hE => by
  refine wpAny_If (h ok C ρ s S _ E (fun c C1 ρ1 μ1 s1 k1 c1 p1 S1 => ?_) hE)
  cases c <;> exact k1 ok C1 ρ1 s1 S1 Q E (fun Δ' C' ρ' μ' s' k c p => hn Δ' C' ρ' μ' s' k (c1.trans c) (p1.trans p)) (fun v d Δ' C' ρ' μ' s' k c p => hr v d Δ' C' ρ' μ' s' k (c1.trans c) (p1.trans p)) (hE.mono c1)
theorem Ex1.expr {e : Expr} (h : Ev B a Δ μ e fun _ μ1 => Kn Δ μ1) (hi : interactive a.env = false := by rfl) (hs : swapsWith e none pos.line a.env = pure false := by rfl) : Ex1 B a Δ μ (.Expr e pos) Kn Kr := fun ok C ρ s S Q E hn hr hE =>
  wpAny_Expr_any (h ok C ρ s S _ E (fun v d C1 ρ1 μ1 s1 k1 c1 p1 S1 r1 => hn Δ C1 ρ1 μ1 s1 k1 c1 p1 S1) hE) hi hs
theorem Ex1.assign {x : Str} {e : Expr} (h : Ev B a Δ μ e fun d μ1 => Kn ((x, d) :: Δ) μ1) (hx : StoreOk a x) (hs : swapsWith e (some (.Name x p)) pos.line a.env = pure false := by rfl) : Ex1 B a Δ μ (.Assign [.Name x p] e pos) Kn Kr := fun ok C ρ s S Q E hn hr hE =>
  wpAny_Assign_Name (h ok C ρ s S _ E (fun v d C1 ρ1 μ1 s1 k1 c1 p1 S1 r1 => wp_store ok S1 hx r1 fun s2 S2 => hn _ _ _ _ _ k1 c1 p1 S2) hE) hs
end

/-! calls of the text's defs -/
open Classical in
noncomputable def snapC (C : Cold) (h : Heap) (X : Option Addr) : Cold := fun b => if (C b).isSome then C b else if X = some b then none else (h.get? b).map fun o => (false, o)
open Classical in
noncomputable def filtC (C C' : Cold) : Cold := fun b => if (C b).isSome ∨ (C' b).any (·.1) then C' b else none
section
variable {C C' : Cold} {h h' : Heap} {X : Option Addr} {b : Addr} {p : Bool × Obj}
theorem snap_le : C.le (snapC C h X) := fun b p e => by unfold snapC; rw [e]; simp
theorem snap_in (x : C.In h) : (snapC C h X).In h := fun b p e => by
  unfold snapC at e
  split at e
  · exact x b p e
  · split at e
    · cases e
    · cases q : h.get? b with
      | none => rw [q] at e; cases e
      | some o => rw [q] at e; cases e; exact ⟨o, q, .rfl _⟩
theorem snap_of (hb : C b = none) (hX : X ≠ some b) {o : Obj} (ho : h.get? b = some o) : snapC C h X b = some (false, o) := by
  unfold snapC; rw [hb, ho]; simp [hX]
theorem snap_X (hb : C b = none) : snapC C h (some b) b = none := by unfold snapC; rw [hb]; simp
theorem filt_le : (filtC C C').le C' := fun b p e => by unfold filtC at e; split at e <;> first | exact e | cases e
theorem le_filt (x : C.le C') : C.le (filtC C C') := fun b p e => by unfold filtC; rw [if_pos (.inl (by rw [e]; rfl))]; exact x b p e
theorem filt_rd {v : Value} {d : D} (r : Rd C' v d) : Rd (filtC C C') v d := r.up fun a p e => by unfold filtC; rw [if_pos (.inr (by rw [e]; rfl))]; exact e
theorem filt_rdAll {vs : List Value} {ds : List D} (r : RdAll C' vs ds) : RdAll (filtC C C') vs ds := r.up fun a p e => by unfold filtC; rw [if_pos (.inr (by rw [e]; rfl))]; exact e
theorem filt_none (hb : C b = none) (h' : ∀ p, C' b = some p → p.1 = false) : filtC C C' b = none := by
  unfold filtC
  split
  · rename_i q
    rcases q with q | q
    · rw [hb] at q; cases q
    · cases e : C' b with
      | none => rfl
      | some p => rw [e] at q; have := h' p e; simp [this] at q
  · rfl
end

section
variable {B : Bs} {a : Act} {Δ : DE} {C C₁ : Cold} {ρ : List Addr} {μ : List MO} {s s' : Shared}
/-- behind a call that kept all that stood before it (but for the one changed object that was handed on) -/
theorem St.back (S : St B a Δ C ρ μ s) {X : Option Addr} {μ' : List MO} (le : (snapC C s.heap X).le C₁) (b' : Base B s') (ci : C₁.In s'.heap)
    (hμ : (X = none ∧ μ' = μ) ∨ ∃ b m m', X = some b ∧ ρ[0]? = some b ∧ μ[0]? = some m ∧ m.live = true ∧ μ' = μ.set 0 m' ∧ MAt C₁ s'.heap b m' ∧ m'.live = true ∧ C₁ b = none) :
    C.le (filtC C C₁) ∧ St B a Δ (filtC C C₁) ρ μ' s' := by
  have cle : C.le (filtC C C₁) := le_filt (snap_le.trans le)
  have keep : ∀ b o, C b = none → X ≠ some b → s.heap.get? b = some o → ∃ o', s'.heap.get? b = some o' ∧ Sim o o' := fun b o h1 h2 h3 => ci _ _ (le _ _ (snap_of h1 h2 h3))
  have none_ : ∀ b o, C b = none → s.heap.get? b = some o → X ≠ some b → filtC C C₁ b = none := fun b o h1 h3 h2 => filt_none h1 fun p e => by
    have := le _ _ (snap_of h1 h2 h3); rw [this] at e; cases e; rfl
  have neX : ∀ b o, s.heap.get? b = some o → ((∃ es n, o.data = .dict es n) ∨ (∃ v, o.data = .cell v) ∨ ∃ vs, o.data = .fields vs) → X ≠ some b := fun b o h1 h2 q => by
    rcases hμ with ⟨h3, _⟩ | ⟨b', m, m', h3, e1, e2, l, _⟩
    · rw [h3] at q; cases q
    · rw [h3] at q; cases q; exact S.muNe h1 h2 e1 e2 l rfl
  obtain ⟨m, hn, hq⟩ := S.ns
  obtain ⟨oL, es, ep, hoL, hdL, hrest⟩ := id hn
  have cellAny : ∀ c v, s.heap.IsCell c v → s'.heap.IsCell c v := fun c v ⟨o, ho, hd⟩ => by
    cases hc : C c with
    | none =>
      obtain ⟨o', h2, _, h3, _⟩ := keep c o hc (neX _ _ ho (.inr (.inl ⟨_, hd⟩))) ho
      exact ⟨o', h2, h3.trans hd⟩
    | some p =>
      obtain ⟨o1, h1, h2, h3, _⟩ := S.cold c p hc
      rw [ho] at h1; cases h1
      obtain ⟨o', h1, h4, h5, _⟩ := ci _ _ (le _ _ (snap_le _ _ hc))
      exact ⟨o', h1, by rw [h5, ← h3]; exact hd⟩
  obtain ⟨oL', h1, _, h3, _⟩ := keep _ _ S.nL (neX _ _ hoL (.inl ⟨_, _, hdL⟩)) hoL
  have mu0 : ∀ (i : Nat) (c : Addr) (o : MO), ρ[i]? = some c → μ[i]? = some o → (o.live = true → X ≠ some c) → MAt (filtC C C₁) s'.heap c o ∧ (o.live = true → filtC C C₁ c = none) := fun i c o e f hne => by
    cases l : o.live with
    | false => cases o <;> first | exact ⟨trivial, (nomatch ·)⟩ | cases l
    | true =>
      replace hne := hne l
      have hC := (S.mu.new i c o e f l).1
      have hat := S.mu.at_ i c o e f
      cases o with
      | dead => cases l
      | list ds =>
        obtain ⟨o, vs, n, ho, hc, hd, r⟩ := hat
        obtain ⟨o', k1, k2, k3, k4⟩ := keep c o hC hne ho
        exact ⟨⟨o', vs, n, k1, k2.trans hc, k3.trans hd, r.1.mono cle, by rw [k4 fun _ _ q => by rw [hd] at q; cases q]; exact r.2⟩, fun _ => none_ _ _ hC ho hne⟩
      | barr ns =>
        obtain ⟨o, y, ho, hc, hd, r⟩ := hat
        obtain ⟨o', k1, k2, k3, k4⟩ := keep c o hC hne ho
        exact ⟨⟨o', y, k1, k2.trans hc, k3.trans hd, r.1, by rw [k4 fun _ _ q => by rw [hd] at q; cases q]; exact r.2⟩, fun _ => none_ _ _ hC ho hne⟩
  have mu : Mu B (filtC C C₁) ρ μ' s'.heap := by
    rcases hμ with ⟨hX, rfl⟩ | ⟨b, m₀, m', hX, e0, f0, l0, rfl, hat, l', hn'⟩
    · exact { len := S.mu.len, inj := S.mu.inj
              at_ := fun i c o e f => (mu0 i c o e f fun _ q => by rw [hX] at q; cases q).1
              new := fun i c o e f l => ⟨(mu0 i c o e f fun _ q => by rw [hX] at q; cases q).2 l, (S.mu.new i c o e f l).2⟩ }
    · have ne : ∀ (i : Nat) (c : Addr) (o : MO), i ≠ 0 → ρ[i]? = some c → μ[i]? = some o → o.live = true → X ≠ some c := fun i c o hi e f l q => by
        rw [hX] at q; cases q; exact hi (S.mu.inj i 0 b o m₀ e e0 f f0 l l0)
      exact { len := by rw [List.length_set]; exact S.mu.len
              inj := fun i j c o1 o2 e1 e2 f1 f2 l1 l2 => by
                have q : ∀ {i : Nat} {o1 : MO}, (μ.set 0 m')[i]? = some o1 → o1.live = true → ∃ o, μ[i]? = some o ∧ o.live = true := fun f l1 => by
                  rcases getElem_set f with ⟨rfl, rfl⟩ | ⟨hne, f⟩
                  · exact ⟨m₀, f0, l0⟩
                  · exact ⟨_, f, l1⟩
                obtain ⟨x1, y1, z1⟩ := q f1 l1
                obtain ⟨x2, y2, z2⟩ := q f2 l2
                exact S.mu.inj i j c x1 x2 e1 e2 y1 y2 z1 z2
              at_ := fun i c o e f => by
                rcases getElem_set f with ⟨rfl, rfl⟩ | ⟨hne, f⟩
                · rw [e0] at e; cases e
                  cases o with
                  | dead => trivial
                  | list ds => obtain ⟨o, vs, n, ho, hc, hd, r⟩ := hat; exact ⟨o, vs, n, ho, hc, hd, filt_rdAll r.1, r.2⟩
                  | barr ns => exact hat
                · exact (mu0 i c o e f (ne i c o hne e f)).1
              new := fun i c o e f l => by
                rcases getElem_set f with ⟨rfl, rfl⟩ | ⟨hne, f⟩
                · rw [e0] at e; cases e
                  exact ⟨filt_none (S.mu.new 0 _ _ e0 f0 l0).1 (fun p q => by rw [hn'] at q; cases q), (S.mu.new 0 _ _ e0 f0 l0).2⟩
                · exact ⟨(mu0 i c o e f (ne i c o hne e f)).2 l, (S.mu.new i c o e f l).2⟩ }
  exact ⟨cle, {
    base := b'
    cold := ci.mono filt_le
    mu := mu
    nL := none_ _ _ S.nL hoL (neX _ _ hoL (.inl ⟨_, _, hdL⟩))
    bL := S.bL
    nW := fun p hp => by
      obtain ⟨x1, x2, v, hv⟩ := S.nW p hp
      obtain ⟨o, ho, hd⟩ := id hv
      exact ⟨none_ _ _ x1 ho (neX _ _ ho (.inr (.inl ⟨_, hd⟩))), x2, v, cellAny _ _ hv⟩
    ns := ⟨m, ⟨oL', es, ep, h1, h3.trans hdL, hrest⟩, fun x d e => by
      obtain ⟨v, hv, hb⟩ := hq x d e
      refine ⟨v, hv.mono cle List.prefix_rfl, ?_⟩
      rcases hb with hb | ⟨k1, c, k2, hc⟩
      · exact .inl hb
      · exact .inr ⟨k1, c, k2, cellAny _ _ hc⟩⟩
    outer := fun l e => (S.outer l e).mono cle
    itn := S.itn
    its := fun p hp => by
      obtain ⟨x1, x2, x3, x4, x5, x6⟩ := S.its p hp
      have hne : X ≠ some p.1 := fun q => by
        rcases hμ with ⟨h3, _⟩ | ⟨b', m, m', h3, e1, e2, l, _⟩
        · rw [h3] at q; cases q
        · rw [h3] at q; cases q; exact x6 0 _ m e1 e2 l rfl
      obtain ⟨o', k1, _, _, k2⟩ := keep _ _ x1 hne x3
      refine ⟨none_ _ _ x1 x3 hne, x2, by rw [k1, k2 x4], x4, x5, fun i c o e f l => ?_⟩
      rcases hμ with ⟨h3, rfl⟩ | ⟨b', m, m', h3, e1, e2, l', rfl, _⟩
      · exact x6 i c o e f l
      · rcases getElem_set f with ⟨rfl, rfl⟩ | ⟨hne, f⟩
        · rw [e1] at e; cases e; exact x6 0 _ m e1 e2 l'
        · exact x6 i c o e f l }⟩
end

/-- a def's promise: no changed object handed on -/
noncomputable def FnP (B : Bs) (f : Str) (n : Nat) (flt : Bool) (ds : List D) (P : D → Prop) : Prop :=
  ∃ fa o fd, B.mg f = some (.ref fa) ∧ B.s₀.heap.get? fa = some o ∧ o.data = .func fd ∧ ∀ A, A.handled = none → Room A (n + 1) → ∀ C s vs, Base B s → C.In s.heap → RdAll C vs ds →
    (flt = true → ∃ l, A.frames = some l ∧ OuterOk B C l) → ∀ R : Result → Shared → Prop,
    (∀ v d C' s', P d → d.tree = true → C.le C' → Base B s' → C'.In s'.heap → Rd C' v d → R (.ok (.ret v)) s') →
    (flt = true → ∀ l e s', A.frames = some l → Base B s' → FaultOut B (sfC B) l C e s'.heap → R (.error (.ref e)) s') →
    codeAny (model pw B.w) A (.call (.ref fa) ⟨vs, []⟩) R s
/-- a def's promise: the first argument is a changed object -/
noncomputable def FnS (B : Bs) (f : Str) (n : Nat) (m : MO) (ds : List D) (P : D → MO → Prop) : Prop :=
  ∃ fa o fd, B.mg f = some (.ref fa) ∧ B.s₀.heap.get? fa = some o ∧ o.data = .func fd ∧ ∀ A, A.handled = none → Room A (n + 1) → ∀ C s vs b, Base B s → C.In s.heap → RdAll C vs ds →
    MAt C s.heap b m → C b = none → B.s₀.heap.get? b = none → ∀ R : Result → Shared → Prop,
    (∀ v d m' C' s', P d m' → d.tree = true → m'.live = true → C.le C' → Base B s' → C'.In s'.heap → Rd C' v d → MAt C' s'.heap b m' → C' b = none → R (.ok (.ret v)) s') →
    codeAny (model pw B.w) A (.call (.ref fa) ⟨.ref b :: vs, []⟩) R s

section
variable {B : Bs} {a : Act} {Δ : DE} {μ : List MO} {K : D → List MO → Prop} {pos p : Pos}
theorem vall_tree {C : Cold} {ρ : List Addr} {vs : List Value} {ds : List D} (h : VAll C ρ vs ds) (t : ds.all D.tree = true) : RdAll C vs ds := h.rd t
theorem outer_call {C : Cold} {ρ : List Addr} {s : Shared} (ok : ActOk B a) (S : St B a Δ C ρ μ s) {l : List Env} (h : a.fr = some l) : OuterOk B (snapC C s.heap none) (a.env :: l) := by
  obtain ⟨m, ⟨oL, es, ep, hoL, hdL, _⟩, _⟩ := S.ns
  intro env he
  rcases List.mem_cons.mp he with rfl | he
  · exact ⟨by rw [ok.kind]; decide, a.env.locals, _, (ok.fr l h).2, S.bL, snap_of S.nL (by simp) hoL, _, _, hdL⟩
  · exact (S.outer l h).mono snap_le env he

theorem call_done {f : Str} {n : Nat} {flt : Bool} {C1 : Cold} {ρ1 : List Addr} {μ1 : List MO} {s1 : Shared} {vs : List Value} {ds : List D} {Q : Value → Shared → Prop} {E : Value → Shared → Prop} (ok : ActOk B a) (ht : ds.all D.tree = true) (F : FnP B f n flt ds fun d => K d μ1)
    (hn : n + 1 ≤ a.n) (hf : flt = true → a.fr.isSome = true) (S1 : St B a Δ C1 ρ1 μ1 s1) (r1 : VAll C1 ρ1 vs ds) {fa : Addr} (hfa : B.mg f = some (.ref fa)) (hQ : Nx B a Δ C1 ρ1 K Q) (hE : FltOk B (sfC B) a C1 E) : wpAny (model pw B.w) a.A (PySem.call (.ref fa) vs) Q E s1 := by
  obtain ⟨fa', o, fd, hfa', ho, hd, hc⟩ := F
  rw [hfa] at hfa'; cases hfa'
  refine wpAny_call (hc a.A ok.hh (ok.room.le (by (exact Nat.lt_succ_of_lt hn))) (snapC C1 s1.heap none) s1 vs S1.base (snap_in S1.cold) ((r1.rd ht).mono snap_le) (fun hflt => ?_) _ (fun v d C2 s2 hK htr le b2 ci r2 => ?_) fun hflt l e s2 hA b2 fo => ?_)
  · obtain ⟨l, hl⟩ := Option.isSome_iff_exists.mp (hf hflt)
    exact ⟨_, (ok.fr l hl).1, outer_call ok S1 hl⟩
  · obtain ⟨cle, S2⟩ := S1.back le b2 ci (.inl ⟨rfl, rfl⟩)
    exact hQ _ _ _ _ _ _ hK cle List.prefix_rfl S2 (.of (filt_rd r2))
  · obtain ⟨l', hl⟩ := Option.isSome_iff_exists.mp (hf hflt)
    rw [(ok.fr l' hl).1] at hA; cases hA
    exact hE l' hl e s2 b2 (fo.at.mono snap_le)
theorem Ev.call {f : Str} {es : List Expr} {n k : Nat} {flt : Bool} (h : EvL B a Δ es μ fun ds μ1 => ds.all D.tree = true ∧ FnP B f n flt ds fun d => K d μ1) (hx : a.env.kindOf f = some .globalImplicit := by rfl) (hk : fnTab.lookup f = some k := by rfl) (hn : n + 1 ≤ a.n := by decide)
    (hf : flt = true → a.fr.isSome = true := by first | (intro h; cases h; done) | (intro _; rfl)) (hne : es ≠ [] := by simp) (hs : noStar es = true := by rfl) (hd : (f == ("__debug__" : Str)) = false := by rfl) :
    Ev B a Δ μ (.Call (.Name f p) es [] pos) K := fun ok C ρ s S Q E hQ hE => by
  obtain ⟨e, r, rfl⟩ : ∃ e r, es = e :: r := by cases es with | nil => exact absurd rfl hne | cons e r => exact ⟨e, r, rfl⟩
  refine ok.st.fnE hk fun fa hfa o fd ho _ hd' _ _ _ _ _ _ _ _ _ _ => ?_
  refine wpAny_Call_NameR (wp_global ok S hx hfa ?_ hd)
  exact callWith_def (o := o) (fd := fd) hd' (evL_wp (ps := pos) h hs ok C ρ s S _ E (fun vs ds C1 ρ1 μ1 s1 k1 c1 p1 S1 r1 =>
    ⟨S1.base.keep _ _ ho, call_done ok k1.1 k1.2 hn hf S1 r1 hfa (hQ.mono c1 p1 fun _ _ h => h) (hE.mono c1)⟩) hE) (starEach_cons hs)
theorem Ev.call0 {f : Str} {n k : Nat} {flt : Bool} (h : FnP B f n flt [] fun d => K d μ) (hx : a.env.kindOf f = some .globalImplicit := by rfl) (hk : fnTab.lookup f = some k := by rfl) (hn : n + 1 ≤ a.n := by decide)
    (hf : flt = true → a.fr.isSome = true := by first | (intro h; cases h; done) | (intro _; rfl)) (hd : (f == ("__debug__" : Str)) = false := by rfl) :
    Ev B a Δ μ (.Call (.Name f p) [] [] pos) K := fun ok C ρ s S Q E hQ hE => by
  refine ok.st.fnE hk fun fa hfa o fd ho _ hd' _ _ _ _ _ _ _ _ _ _ => ?_
  refine wpAny_Call_NameR (wp_global ok S hx hfa ?_ hd)
  exact Calls.callWith_function (o := o) (fd := fd) (args := []) (evalArgs_nil3 ⟨⟨S.base.keep _ _ ho, hd'⟩, call_done ok rfl h hn hf S (vs := []) trivial hfa hQ hE⟩)

/-- a def of ours that changes its first argument, μ's first object -/
theorem Ev.callS {f : Str} {x : Str} {es : List Expr} {n k : Nat} {q : Pos} (he : Δ.lookup x = some (.obj 0)) (h : EvL B a Δ es μ fun ds μ1 => ds.all D.tree = true ∧ ∃ m r, μ1 = m :: r ∧ m.live = true ∧ FnS B f n m ds fun d m' => K d (m' :: r))
    (hx : a.env.kindOf f = some .globalImplicit := by rfl) (hk : fnTab.lookup f = some k := by rfl) (hn : n + 1 ≤ a.n := by decide) (hs : noStar es = true := by rfl) (hd : (f == ("__debug__" : Str)) = false := by rfl) (hd2 : (x == ("__debug__" : Str)) = false := by rfl) :
    Ev B a Δ μ (.Call (.Name f p) (.Name x q :: es) [] pos) K := fun ok C ρ s S Q E hQ hE => by
  refine ok.st.fnE hk fun fa hfa o fd ho _ hd' _ _ _ _ _ _ _ _ _ _ => ?_
  refine wpAny_Call_NameR (wp_global ok S hx hfa ?_ hd)
  refine callWith_def (o := o) (fd := fd) hd' (Calls.spliced_cons (wpAny_Name (wp_name ok S he fun v hv => ?_) hd2)) rfl
  refine evL_wp (ps := pos) h hs ok C ρ s S _ E (fun vs ds C1 ρ1 μ1 s1 k1 c1 p1 S1 r1 => ⟨S1.base.keep _ _ ho, ?_⟩) hE
  obtain ⟨ht, m, r, rfl, hl, fa', o', fd', hfa', _, _, hc⟩ := k1
  rw [hfa] at hfa'; cases hfa'
  obtain ⟨b, hb, rfl⟩ := VRd.mono (d := .obj 0) hv c1 p1
  have nb := S1.mu.new 0 b m hb rfl hl
  refine wpAny_call (hc a.A ok.hh (ok.room.le (by (grind))) (snapC C1 s1.heap (some b)) s1 vs b S1.base (snap_in S1.cold) ((r1.rd ht).mono snap_le) ((S1.mu.at_ 0 b m hb rfl).keeps snap_le fun _ e => e) (snap_X nb.1) nb.2 _ fun v d m' C2 s2 hK htr hl' le b2 ci r2 hm hn2 => ?_)
  obtain ⟨cle, S2⟩ := S1.back (μ' := m' :: r) le b2 ci (.inr ⟨b, m, m', rfl, hb, rfl, hl, rfl, hm, hl', hn2⟩)
  exact hQ _ _ _ _ _ _ hK (c1.trans cle) p1 S2 (.of (filt_rd r2))
end
/-! B7 -/
noncomputable def BAll (C : Cold) (ρ : List Addr) : List (Str × Value) → DE → Prop
  | [], [] => True
  | (x, v) :: r, (y, d) :: r' => x = y ∧ VRd C ρ v d ∧ BAll C ρ r r'
  | _, _ => False
theorem BAll.names {C : Cold} {ρ : List Addr} : ∀ {b : List (Str × Value)} {Δ : DE}, BAll C ρ b Δ → b.map (·.1) = Δ.map (·.1)
  | [], [], _ => rfl
  | (x, v) :: r, (y, d) :: r', ⟨h, _, t⟩ => by rw [List.map_cons, List.map_cons, BAll.names t, h]
  | [], _ :: _, h => h.elim
  | _ :: _, [], h => h.elim
theorem bindL_ne {kd : Str → Option NameKind} {x : Str} : ∀ {b : List (Str × Value)} {m : Str → Option Value}, x ∉ b.map (·.1) → bindL kd b m x = m x
  | [], _, _ => rfl
  | (n, v) :: r, m, h => by
    rw [List.map_cons, List.mem_cons, not_or] at h
    rw [bindL, bindL_ne h.2]
    split
    · exact if_neg h.1
    · rfl
theorem bindC_ne {kd : Str → Option NameKind} {x : Str} : ∀ {b : List (Str × Value)} {m : Str → Option Value}, x ∉ b.map (·.1) → bindC kd b m x = m x
  | [], _, _ => rfl
  | (n, v) :: r, m, h => by
    rw [List.map_cons, List.mem_cons, not_or] at h
    rw [bindC, bindC_ne h.2]
    split
    · rfl
    · exact if_neg h.1
theorem bound {C : Cold} {ρ : List Addr} {kd : Str → Option NameKind} {x : Str} {d : D} : ∀ {b : List (Str × Value)} {Δ : DE} {m cm : Str → Option Value}, BAll C ρ b Δ → (Δ.map (·.1)).Nodup → Δ.lookup x = some d →
    ∃ v, VRd C ρ v d ∧ (kd x = some .local → bindL kd b m x = some v) ∧ (kd x ≠ some .local → bindC kd b cm x = some v)
  | [], [], _, _, _, _, e => by cases e
  | (n, v) :: r, (y, d') :: Δ, m, cm, ⟨h, hv, t⟩, nd, e => by
    subst h
    rw [List.map_cons, List.nodup_cons] at nd
    rw [lookup_cons] at e
    by_cases hx : x = n
    · rw [if_pos hx] at e; cases e; subst hx
      have hnot : x ∉ r.map (·.1) := by rw [t.names]; exact nd.1
      refine ⟨v, hv, fun k => ?_, fun k => ?_⟩
      · rw [bindL, bindL_ne hnot, if_pos k]; simp
      · rw [bindC, bindC_ne hnot, if_neg k]; simp
    · rw [if_neg hx] at e
      obtain ⟨u, hu, h1, h2⟩ := bound (kd := kd) (m := if kd n = some .local then fun y => if y = n then some v else m y else m) (cm := if kd n = some .local then cm else fun y => if y = n then some v else cm y) t nd.2 e
      exact ⟨u, hu, fun k => by rw [bindL]; exact h1 k, fun k => by rw [bindC]; exact h2 k⟩
  | [], _ :: _, _, _, h, _, _ => h.elim
  | _ :: _, [], _, _, h, _, _ => h.elim

/-- the frame of a call of the k-th statement's def -/
noncomputable def envF (k : Nat) (f : Str) (L fa : Addr) (cd : Value) : Env :=
  { scope := (fx k).2.2, locals := L, globals := mainGlobals, cells := cellsFrom (L + 1) (fx k).2.2.names [], qual := f ++ ".<locals>.", func := some fa, code := cd, frame := some L, builtins := builtinsNs }
noncomputable def actF (A : Around) (k : Nat) (f : Str) (L fa : Addr) (cd : Value) (fr : Option (List Env)) (n : Nat) : Act :=
  { A := A.deeper (envF k f L fa cd), env := envF k f L fa cd, W := cellsFrom (L + 1) (fx k).2.2.names [], fr, n }

/-- what a def's parameters are bound to -/
noncomputable def Binds (B : Bs) (k : Nat) (ds : List D) (Δ : DE) : Prop :=
  ∀ fd : FuncData, fd.params = (fx k).1 → fd.kwdefaults = .none → DfOk B k fd.defaults → ∀ C ρ s vs, Base B s → C.In s.heap → VAll C ρ vs ds → ∃ b, BindsTo s fd ⟨vs, []⟩ b ∧ BAll C ρ b Δ

theorem Binds.one {B : Bs} {k : Nat} {x : Str} {d : D} (hk : ¬ (k = 12 ∨ k = 13)) (h : ∀ fd v, fd.params = (fx k).1 → fd.kwdefaults = .none → fd.defaults = .none → bindArgs fd ⟨[v], []⟩ = pure [(x, v)]) : Binds B k [d] [(x, d)] := fun fd hp hkd hdf C ρ s vs _ _ r => by
  obtain ⟨v, rfl, h1⟩ := r.onev
  exact ⟨_, BindsTo.of_eq (h fd v hp hkd (by unfold DfOk at hdf; rwa [if_neg hk] at hdf)), rfl, h1, trivial⟩
theorem Binds.two {B : Bs} {k : Nat} {x y : Str} {d e : D} (hk : ¬ (k = 12 ∨ k = 13)) (h : ∀ fd v w, fd.params = (fx k).1 → fd.kwdefaults = .none → fd.defaults = .none → bindArgs fd ⟨[v, w], []⟩ = pure [(x, v), (y, w)]) : Binds B k [d, e] [(x, d), (y, e)] := fun fd hp hkd hdf C ρ s vs _ _ r => by
  obtain ⟨v, vs1, rfl, h1, r1⟩ := r.consv
  obtain ⟨w, rfl, h2⟩ := r1.onev
  exact ⟨_, BindsTo.of_eq (h fd v w hp hkd (by unfold DfOk at hdf; rwa [if_neg hk] at hdf)), rfl, h1, rfl, h2, trivial⟩
theorem Binds.three {B : Bs} {k : Nat} {x y z : Str} {d e f : D} (hk : ¬ (k = 12 ∨ k = 13)) (h : ∀ fd u v w, fd.params = (fx k).1 → fd.kwdefaults = .none → fd.defaults = .none → bindArgs fd ⟨[u, v, w], []⟩ = pure [(x, u), (y, v), (z, w)]) : Binds B k [d, e, f] [(x, d), (y, e), (z, f)] := fun fd hp hkd hdf C ρ s vs _ _ r => by
  obtain ⟨u, vs1, rfl, h1, r1⟩ := r.consv
  obtain ⟨v, vs2, rfl, h2, r2⟩ := r1.consv
  obtain ⟨w, rfl, h3⟩ := r2.onev
  exact ⟨_, BindsTo.of_eq (h fd u v w hp hkd (by unfold DfOk at hdf; rwa [if_neg hk] at hdf)), rfl, h1, rfl, h2, rfl, h3, trivial⟩
theorem Binds.four {B : Bs} {k : Nat} {x y z q : Str} {d e f g : D} (hk : ¬ (k = 12 ∨ k = 13)) (h : ∀ fd u v w t, fd.params = (fx k).1 → fd.kwdefaults = .none → fd.defaults = .none → bindArgs fd ⟨[u, v, w, t], []⟩ = pure [(x, u), (y, v), (z, w), (q, t)]) : Binds B k [d, e, f, g] [(x, d), (y, e), (z, f), (q, g)] := fun fd hp hkd hdf C ρ s vs _ _ r => by
  obtain ⟨u, vs1, rfl, h1, r1⟩ := r.consv
  obtain ⟨v, vs2, rfl, h2, r2⟩ := r1.consv
  obtain ⟨w, vs3, rfl, h3, r3⟩ := r2.consv
  obtain ⟨t, rfl, h4⟩ := r3.onev
  exact ⟨_, BindsTo.of_eq (h fd u v w t hp hkd (by unfold DfOk at hdf; rwa [if_neg hk] at hdf)), rfl, h1, rfl, h2, rfl, h3, rfl, h4, trivial⟩
noncomputable def goodNames (k : Nat) (ns : List Str) : Bool :=
  decide ns.Nodup && ns.all (fun x => (fx k).2.2.names.lookup x == some .local || (fx k).2.2.names.lookup x == some .cell) && decide ((cellsFrom 0 (fx k).2.2.names []).map (·.1)).Nodup && !(fx k).2.2.isCoroutine && !(fx k).2.2.isGenerator && (fx k).2.2.kind == .function

section
variable {B : Bs} {f : Str} {k n : Nat}
/-- into a def's body -/
theorem enter {A : Around} {fa : Addr} {o : Obj} {fd : FuncData} {C : Cold} {ρ : List Addr} {μ : List MO} {s : Shared} {vs : List Value} {ds : List D} {Δ : DE} {fr : Option (List Env)} {R : Result → Shared → Prop} {Kn : DE → List MO → Prop} {Kr : D → List MO → Prop}
    (st : Stat B) (hA : A.handled = none) (room : Room A (n + 2)) (b : Base B s) (ci : C.In s.heap) (M : Mu B C ρ μ s.heap) (rv : VAll C ρ vs ds) (hmg : B.mg f = some (.ref fa)) (ho : B.s₀.heap.get? fa = some o) (hd : o.data = .func fd) (hcd : B.s₀.heap.CodeRec fd.code fd.qualname) (hq : fd.qualname = f)
    (hp : fd.params = (fx k).1) (hbody : fd.body = .stmts (fx k).2.1) (hsc : fd.scope = (fx k).2.2) (hgl : fd.globals = mainGlobals) (hclo : fd.closure = []) (hbu : fd.builtins = builtinsNs) (hkd : fd.kwdefaults = .none) (hdf : DfOk B k fd.defaults)
    (hb : Binds B k ds Δ) {ns : List Str} (hns : Δ.map (·.1) = ns) (hg : goodNames k ns = true) (hfr : ∀ l, fr = some l → A.frames = some l ∧ OuterOk B C l)
    (body : ∀ L cd, Ex B (actF A k f L fa cd fr n) Δ μ (fx k).2.1 Kn Kr)
    (hn : ∀ Δ' C' ρ' μ' s', Kn Δ' μ' → C.le C' → ρ <+: ρ' → Base B s' → C'.In s'.heap → Mu B C' ρ' μ' s'.heap → R (.ok (.ret .none)) s')
    (hr : ∀ v d C' ρ' μ' s', Kr d μ' → C.le C' → ρ <+: ρ' → Base B s' → C'.In s'.heap → Mu B C' ρ' μ' s'.heap → VRd C' ρ' v d → R (.ok (.ret v)) s')
    (he : ∀ l e s', fr = some l → Base B s' → FaultOut B (sfC B) l C e s'.heap → R (.error (.ref e)) s') :
    codeAny (model pw B.w) A (.call (.ref fa) ⟨vs, []⟩) R s := by
  simp only [goodNames, Bool.and_eq_true, decide_eq_true_eq, Bool.not_eq_true', beq_iff_eq] at hg
  obtain ⟨⟨⟨⟨⟨g1, g2⟩, g3⟩, g4⟩, g5⟩, g6⟩ := hg
  subst hns
  obtain ⟨binds, hbind, ba⟩ := hb fd hp hkd hdf C ρ s vs b ci rv
  have lim : s.heap.NoLimit := st.lim.keeps fun _ _ e => b.keep _ _ e
  obtain ⟨name, qual, params, fbody, scope, globals, closure, dV, kV, doc, pm, an, cd, ct, bu⟩ := fd
  dsimp only at hq hp hbody hsc hgl hclo hbu hcd
  subst hq hp hbody hsc hgl hclo hbu
  refine codeAny_call_function room.depth (b.keep _ _ ho) hd g4 g5 rfl (hcd.keeps fun _ _ e => b.keep _ _ e) (hbind _ _ _ _ ?_)
  have kinds : ∀ x ∈ binds, (fx k).2.2.names.lookup x.1 = some .local ∨ ((fx k).2.2.names.lookup x.1 = some .cell ∧ ((cellsFrom (s.heap.objs.size + 1) (fx k).2.2.names []).lookup x.1).isSome = true) := fun x hx => by
    have hm : x.1 ∈ Δ.map (·.1) := by rw [← ba.names]; exact List.mem_map_of_mem hx
    have q := List.all_eq_true.mp g2 x.1 hm
    simp only [Bool.or_eq_true, beq_iff_eq] at q
    rcases q with q | q
    · exact .inl q
    · exact .inr ⟨q, cellsFrom_some _ _ _ (.inl q)⟩
  refine wpAny_newFunctionEnv_cells g6 kinds fun env henv s' x => ?_
  subst henv
  have hk := x.toInCall.keep
  refine ⟨lim.keeps hk, codeAny_func ?_⟩
  obtain ⟨h₁, tk, rfl⟩ := x.toInCall.same
  have b' : Base B { s with heap := h₁, toks := tk } := b.to fun c o e => hk c o (b.keep c o e)
  have fresh : ∀ c, s.heap.objs.size ≤ c → C c = none ∧ B.s₀.heap.get? c = none := fun c hc => by
    refine ⟨?_, ?_⟩
    · cases e : C c with
      | none => rfl
      | some p => exact absurd (ci.lt e) (Nat.not_lt.mpr hc)
    · cases e : B.s₀.heap.get? c with
      | none => rfl
      | some p => exact absurd (Heap.lt_size (b.keep _ _ e)) (Nat.not_lt.mpr hc)
  have S : St B (actF A k qual s.heap.objs.size fa cd fr n) Δ C ρ μ { s with heap := h₁, toks := tk } := {
    base := b'
    cold := ci.keeps hk
    mu := M.keeps (s := s) (.refl _) (fun c _ o e => hk c o e) fun i c o e f l => (M.new i c o e f l).1
    nL := (fresh _ (Nat.le_refl _)).1
    bL := (fresh _ (Nat.le_refl _)).2
    nW := fun p hp => by
      have h1 : s.heap.objs.size < p.2 := x.above p.1 p.2 hp
      refine ⟨(fresh _ (Nat.le_of_lt h1)).1, (fresh _ (Nat.le_of_lt h1)).2, _, x.cell p.1 p.2 (lookup_of_mem_nodup ?_ hp)⟩
      exact cellsFrom_names (fx k).2.2.names 0 (s.heap.objs.size + 1) [] [] rfl ▸ g3
    ns := ⟨_, x.toInCall.ns, fun y d e => by
      obtain ⟨v, hv, h1, h2⟩ := bound (kd := Env.kindOf (envF k qual s.heap.objs.size fa cd)) (m := fun _ => none) (cm := fun _ => none) ba g1 e
      refine ⟨v, hv, ?_⟩
      have hm : y ∈ Δ.map (·.1) := by
        have := mem_of_lookup e
        exact List.mem_map.mpr ⟨(y, d), this, rfl⟩
      have q := List.all_eq_true.mp g2 y hm
      simp only [Bool.or_eq_true, beq_iff_eq] at q
      rcases q with q | q
      · exact .inl ⟨q, h1 q⟩
      · obtain ⟨c, hc⟩ := Option.isSome_iff_exists.mp (cellsFrom_some (fx k).2.2.names (s.heap.objs.size + 1) [] (.inl q))
        have hnl : Env.kindOf (envF k qual s.heap.objs.size fa cd) y ≠ some .local := by show (fx k).2.2.names.lookup y ≠ some .local; rw [q]; decide
        have hh := h2 hnl
        have this : h₁.IsCell c (bindC (Env.kindOf (envF k qual s.heap.objs.size fa cd)) binds (fun _ => none) y) := x.cell y c hc
        rw [hh] at this
        exact .inr ⟨q, c, hc, this⟩⟩
    outer := fun l e => (hfr l e).2
    its := fun p hp => nomatch hp
    itn := .nil }
  have ok : ActOk B (actF A k qual s.heap.objs.size fa cd fr n) := {
    st := st, hh := hA, room := room.deeper _, kind := g6, gl := rfl, bu := rfl
    apart := fun y z c h1 h2 => name_of_addr x.apart (mem_of_lookup h1) (mem_of_lookup h2)
    W := fun y c hm => lookup_of_mem_nodup (cellsFrom_names (fx k).2.2.names 0 (s.heap.objs.size + 1) [] [] rfl ▸ g3) hm
    fr := fun l e => ⟨Around.frames_deeper (hfr l e).1, rfl⟩ }
  refine body _ cd ok C ρ _ S _ _ (fun Δ' C' ρ' μ' s' k1 c1 p1 S1 => hn Δ' C' ρ' μ' s' k1 c1 p1 S1.base S1.cold S1.mu) (fun v d Δ' C' ρ' μ' s' k1 c1 p1 S1 r1 => hr v d C' ρ' μ' s' k1 c1 p1 S1.base S1.cold S1.mu r1) ?_
  intro l hl e s' b1 fa'
  refine fault_leave (ok.fr l hl).1 rfl S.nL fa' fun h' fo => he l e _ hl ?_ fo
  obtain ⟨Bh, a0, k, fl⟩ := fo
  exact b1.to (tk := s'.toks) fun c o e => fl.1 c o (k.1 c o e)
end
/-! B8 -/
section
variable {B : Bs} {f : Str} {k n : Nat}
theorem Mu.nil {C : Cold} {h : Heap} : Mu B C [] [] h := ⟨rfl, fun _ _ _ e => by simp at e, fun _ _ _ e => by simp at e, fun _ _ _ _ _ e => by simp at e⟩
theorem Mu.one {C : Cold} {h : Heap} {b : Addr} {m : MO} (hm : MAt C h b m) (hC : C b = none) (hB : B.s₀.heap.get? b = none) : Mu B C [b] [m] h where
  len := rfl
  at_ := fun i a o e f => by
    match i, e, f with
    | 0, e, f => cases e; cases f; exact hm
  new := fun i a o e f _ => by
    match i, e, f with
    | 0, e, f => cases e; cases f; exact ⟨hC, hB⟩
  inj := fun i j a o o' e f _ _ _ _ => by
    match i, j, e, f with
    | 0, 0, _, _ => rfl

theorem FnP.of {ds : List D} {Δ : DE} {P : D → Prop} (st : Stat B) (hk : fnTab.lookup f = some k) (hb : Binds B k ds Δ) {ns : List Str} (hns : Δ.map (·.1) = ns) (hg : goodNames k ns = true)
    (body : ∀ A L fa cd, Ex B (actF A k f L fa cd none n) Δ [] (fx k).2.1 (fun _ _ => P .none) (fun d _ => d.tree = true ∧ P d)) : FnP B f (n + 1) false ds P := by
  refine st.fnE hk fun fa hmg o fd ho hc hd hcd hq hp hbody hsc hgl hclo hbu hkd hdf => ?_
  refine ⟨fa, o, fd, hmg, ho, hd, fun A hA room C s vs b ci r _ R hR _ => ?_⟩
  refine enter st hA room b ci Mu.nil (VAll.of r) hmg ho hd hcd hq hp hbody hsc hgl hclo hbu hkd hdf hb hns hg (fr := none) (fun _ e => by cases e) (fun L cd => body A L fa cd) (fun Δ' C' ρ' μ' s' k1 c1 p1 b1 ci1 _ => hR _ _ _ _ k1 rfl c1 b1 ci1 .none)
    (fun v d C' ρ' μ' s' k1 c1 p1 b1 ci1 _ r1 => hR _ _ _ _ k1.2 k1.1 c1 b1 ci1 (r1.rd k1.1)) (fun _ _ _ e => by cases e)
theorem FnP.ofF {ds : List D} {Δ : DE} {P : D → Prop} (st : Stat B) (hk : fnTab.lookup f = some k) (hb : Binds B k ds Δ) {ns : List Str} (hns : Δ.map (·.1) = ns) (hg : goodNames k ns = true)
    (body : ∀ A L fa cd l, Ex B (actF A k f L fa cd (some l) n) Δ [] (fx k).2.1 (fun _ _ => P .none) (fun d _ => d.tree = true ∧ P d)) : FnP B f (n + 1) true ds P := by
  refine st.fnE hk fun fa hmg o fd ho hc hd hcd hq hp hbody hsc hgl hclo hbu hkd hdf => ?_
  refine ⟨fa, o, fd, hmg, ho, hd, fun A hA room C s vs b ci r hfr R hR hF => ?_⟩
  obtain ⟨l, hl, hou⟩ := hfr rfl
  refine enter st hA room b ci Mu.nil (VAll.of r) hmg ho hd hcd hq hp hbody hsc hgl hclo hbu hkd hdf hb hns hg (fr := some l) (fun _ e => by cases e; exact ⟨hl, hou⟩) (fun L cd => body A L fa cd l) (fun Δ' C' ρ' μ' s' k1 c1 p1 b1 ci1 _ => hR _ _ _ _ k1 rfl c1 b1 ci1 .none)
    (fun v d C' ρ' μ' s' k1 c1 p1 b1 ci1 _ r1 => hR _ _ _ _ k1.2 k1.1 c1 b1 ci1 (r1.rd k1.1)) (fun l' e s' hl' b1 fo => by cases hl'; exact hF rfl l e s' hl b1 fo)
theorem FnS.of {m : MO} {ds : List D} {Δ : DE} {P : D → MO → Prop} (st : Stat B) (hk : fnTab.lookup f = some k) (hb : Binds B k (.obj 0 :: ds) Δ) {ns : List Str} (hns : Δ.map (·.1) = ns) (hg : goodNames k ns = true)
    (body : ∀ A L fa cd, Ex B (actF A k f L fa cd none n) Δ [m] (fx k).2.1 (fun _ _ => False) (fun d μ' => d.tree = true ∧ ∃ m' r, μ' = m' :: r ∧ m'.live = true ∧ P d m')) : FnS B f (n + 1) m ds P := by
  refine st.fnE hk fun fa hmg o fd ho hc hd hcd hq hp hbody hsc hgl hclo hbu hkd hdf => ?_
  refine ⟨fa, o, fd, hmg, ho, hd, fun A hA room C s vs b b0 ci r hm hC hB R hR => ?_⟩
  refine enter st hA room b0 ci (Mu.one hm hC hB) (vs := .ref b :: vs) (ds := .obj 0 :: ds) ⟨⟨b, rfl, rfl⟩, VAll.of r⟩ hmg ho hd hcd hq hp hbody hsc hgl hclo hbu hkd hdf hb hns hg (fr := none) (fun _ e => by cases e) (fun L cd => body A L fa cd) (fun Δ' C' ρ' μ' s' k1 => k1.elim)
    (fun v d C' ρ' μ' s' k1 c1 p1 b1 ci1 M1 r1 => ?_) (fun _ _ _ e => by cases e)
  obtain ⟨ht, m', r', rfl, hl, hP⟩ := k1
  obtain ⟨t, rfl⟩ := p1
  exact hR _ _ _ _ _ hP ht hl c1 b1 ci1 (r1.rd ht) (M1.at_ 0 b m' rfl rfl) (M1.new 0 b m' rfl rfl hl).1
end

section
variable {B : Bs} {a : Act} {Δ : DE} {μ : List MO} {K : D → List MO → Prop} {pos p : Pos} {Kn : DE → List MO → Prop} {Kr : D → List MO → Prop}
/-- a built-in's step upon all its arguments -/
noncomputable def OpL (ds : List D) (t : List Value → Sem Value) (μ : List MO) (K : D → List MO → Prop) : Prop :=
  ∀ B a Δ, ActOk B a → ∀ C ρ s vs, St B a Δ C ρ μ s → VAll C ρ vs ds → ∀ Q E, Nx B a Δ C ρ K Q → wpAny (model pw B.w) a.A (t vs) Q E s

theorem Ev.callB {f : Str} {es : List Expr} {id : String} (h : EvL B a Δ es μ fun ds μ1 => OpL ds (fun vs => PySem.call (.builtin id) vs) μ1 K) (hb : bootBuiltins f = some (.builtin id)) (hm : f ∈ biNames) (hx : a.env.kindOf f = some .globalImplicit) (hne : es ≠ []) (hs : noStar es = true) (hn : f ≠ "__name__") (hd : (f == ("__debug__" : Str)) = false) :
    Ev B a Δ μ (.Call (.Name f p) es [] pos) K := fun ok C ρ s S Q E hQ hE => by
  obtain ⟨e, r, rfl⟩ : ∃ e r, es = e :: r := by cases es with | nil => exact absurd rfl hne | cons e r => exact ⟨e, r, rfl⟩
  refine wpAny_Call_NameR (wp_builtin ok S hx hm hb ?_ hn hd)
  rw [starEach_cons hs]
  refine Calls.callWith_builtin ?_ (Calls.evalArgs_plain ?_)
  · have : ∀ r : List Expr, noStar r = true → (backTo pos (starEach r a.env)).any (·.1) = false := by
      intro r
      induction r with
      | nil => intro _; rfl
      | cons e r ih => intro h; rw [starEach_cons h]; simp only [backTo, List.map_cons, List.any_cons, Bool.false_or]; exact ih (noStar_tail h)
    rw [← starEach_cons hs]; exact this _ hs
  · have q := evL_wp (ps := pos) h hs ok C ρ s S (fun vs s1 => wpAny (model pw B.w) a.A (PySem.call (.builtin id) vs) Q E s1) E (fun vs ds C1 ρ1 μ1 s1 k1 c1 p1 S1 r1 => k1 B a Δ ok C1 ρ1 s1 vs S1 r1 Q E (hQ.mono c1 p1 fun _ _ h => h)) hE
    rw [starEach_cons hs] at q
    exact q
theorem Ev.callT {f : Str} {es : List Expr} {T : String} (h : EvL B a Δ es μ fun ds μ1 => OpL ds (fun vs => PySem.call (.type T) vs) μ1 K) (hb : bootBuiltins f = some (.type T)) (hm : f ∈ biNames) (hx : a.env.kindOf f = some .globalImplicit) (hne : es ≠ []) (hs : noStar es = true) (hn : f ≠ "__name__") (hd : (f == ("__debug__" : Str)) = false) :
    Ev B a Δ μ (.Call (.Name f p) es [] pos) K := fun ok C ρ s S Q E hQ hE => by
  obtain ⟨e, r, rfl⟩ : ∃ e r, es = e :: r := by cases es with | nil => exact absurd rfl hne | cons e r => exact ⟨e, r, rfl⟩
  refine wpAny_Call_NameR (wp_builtin ok S hx hm hb ?_ hn hd)
  rw [starEach_cons hs]
  refine PyProof.Rows.callWith_type ?_ (Calls.evalArgs_plain ?_)
  · have : ∀ r : List Expr, noStar r = true → (backTo pos (starEach r a.env)).any (·.1) = false := by
      intro r
      induction r with
      | nil => intro _; rfl
      | cons e r ih => intro h; rw [starEach_cons h]; simp only [backTo, List.map_cons, List.any_cons, Bool.false_or]; exact ih (noStar_tail h)
    rw [← starEach_cons hs]; exact this _ hs
  · have q := evL_wp (ps := pos) h hs ok C ρ s S (fun vs s1 => wpAny (model pw B.w) a.A (PySem.call (.type T) vs) Q E s1) E (fun vs ds C1 ρ1 μ1 s1 k1 c1 p1 S1 r1 => k1 B a Δ ok C1 ρ1 s1 vs S1 r1 Q E (hQ.mono c1 p1 fun _ _ h => h)) hE
    rw [starEach_cons hs] at q
    exact q

theorem ite_dec {P X Y : Prop} [Decidable P] (h1 : P → X) (h2 : ¬ P → Y) : if decide P = true then X else Y := by
  by_cases h : P
  · rw [if_pos (decide_eq_true h)]; exact h1 h
  · rw [if_neg (by rw [decide_eq_false h]; decide)]; exact h2 h
theorem ite_beq {i j : Int} {X Y : Prop} (h1 : i = j → X) (h2 : i ≠ j → Y) : if (i == j) = true then X else Y := by
  by_cases h : i = j
  · rw [if_pos (by simp [h])]; exact h1 h
  · rw [if_neg (by simp [h])]; exact h2 h
theorem ite_bne {i j : Int} {X Y : Prop} (h1 : i ≠ j → X) (h2 : i = j → Y) : if (i != j) = true then X else Y := by
  by_cases h : i = j
  · rw [if_neg (by simp [h])]; exact h2 h
  · rw [if_pos (by simp [h])]; exact h1 h
theorem OpL.one {d : D} {t : Value → Sem Value} (h : ∀ B a Δ, ActOk B a → ∀ C ρ s v, St B a Δ C ρ μ s → VRd C ρ v d → ∀ Q E, Nx B a Δ C ρ K Q → wpAny (model pw B.w) a.A (t v) Q E s) (t' : List Value → Sem Value) (e : ∀ v, t' [v] = t v) : OpL [d] t' μ K :=
  fun B a Δ ok C ρ s vs S r Q E hQ => by
    obtain ⟨v, rfl, r1⟩ := r.onev
    rw [e]; exact h B a Δ ok C ρ s v S r1 Q E hQ
theorem OpL.two {d d2 : D} {t : Value → Value → Sem Value} (h : ∀ B a Δ, ActOk B a → ∀ C ρ s v w, St B a Δ C ρ μ s → VRd C ρ v d → VRd C ρ w d2 → ∀ Q E, Nx B a Δ C ρ K Q → wpAny (model pw B.w) a.A (t v w) Q E s) (t' : List Value → Sem Value) (e : ∀ v w, t' [v, w] = t v w) : OpL [d, d2] t' μ K :=
  fun B a Δ ok C ρ s vs S r Q E hQ => by
    obtain ⟨v, w, rfl, r1, r2⟩ := r.twov
    rw [e]; exact h B a Δ ok C ρ s v w S r1 r2 Q E hQ

/-- what len says -/
@[reducible] noncomputable def Len (μ : List MO) : D → (Int → Prop) → Prop
  | .list ds, K => ds.length < 2 ^ 40 ∧ K ds.length
  | .tuple ds, K => ds.length < 2 ^ 40 ∧ K ds.length
  | .bytes ns, K => ns.length < 2 ^ 40 ∧ K ns.length
  | .obj k, K => ∃ ds, μ[k]? = some (.list ds) ∧ ds.length < 2 ^ 40 ∧ K ds.length
  | _, _ => False
theorem Ev.len {e : Expr} (h : Ev B a Δ μ e fun d μ1 => Len μ1 d fun i => K (.int i) μ1) (hx : a.env.kindOf "len" = some .globalImplicit := by rfl) (hs : noStar [e] = true := by rfl) : Ev B a Δ μ (.Call (.Name "len" p) [e] [] pos) K :=
  Ev.callB (id := "len") (h.mono fun d μ1 k => OpL.one (fun B a Δ ok C ρ s v S r Q E hQ => by
    cases d <;> try exact k.elim
    · cases r
      have e := KBw.ints_length
      exact PySem.W.len_bytes (by have := k.1; rw [e] at this; (exact Nat.le_of_lt this)) (by have k2 := k.2; rw [e] at k2; exact hQ _ _ _ _ _ _ k2 (.refl _) List.prefix_rfl (S.tok _) (.int _ _))
    · obtain ⟨l, vs, rfl, hl, rr⟩ := Rd.isTup r S.cold
      have e := (List.size_toArray (as := vs)).trans rr.length
      exact PyProof.Rows.len_tuple hl (by rw [e]; have := k.1; (exact ob18 k)) (by rw [e]; exact hQ _ _ _ _ _ _ k.2 (.refl _) List.prefix_rfl (S.tok _) (.int _ _))
    · obtain ⟨l, vs, rfl, hl, rr⟩ := Rd.isList r S.cold
      have e := (List.size_toArray (as := vs)).trans rr.length
      exact PyProof.Rows.len_list hl (by rw [e]; have := k.1; (exact ob18 k)) (by rw [e]; exact hQ _ _ _ _ _ _ k.2 (.refl _) List.prefix_rfl (S.tok _) (.int _ _))
    · obtain ⟨ds, hm, hz, hk⟩ := k
      obtain ⟨l, hl, rfl⟩ := r
      obtain ⟨o, vs, n, ho, hc, hdd, rr, _⟩ := S.mu.at_ _ _ _ hl hm
      have e : vs.size = ds.length := by rw [← rr.length]; simp
      exact PyProof.Rows.len_list ⟨o, ho, hc, n, hdd⟩ (by rw [e]; (exact ob19 hz)) (by rw [e]; exact hQ _ _ _ _ _ _ hk (.refl _) List.prefix_rfl (S.tok _) (.int _ _))) _ fun _ => rfl)
    PyProof.Rows.Boot.«len» (by simp [biNames]) hx (by simp) hs (by decide) rfl
theorem Ev.toInt {e : Expr} (h : Ev B a Δ μ e fun d μ1 => (∃ i, d = .int i ∧ K (.int i) μ1) ∨ ∃ b, d = .bool b ∧ K (.int (if b then 1 else 0)) μ1) (hx : a.env.kindOf "int" = some .globalImplicit := by rfl) (hs : noStar [e] = true := by rfl) : Ev B a Δ μ (.Call (.Name "int" p) [e] [] pos) K :=
  Ev.callT (T := "int") (h.mono fun d μ1 k => OpL.one (fun B a Δ ok C ρ s v S r Q E hQ => by
    rcases k with ⟨i, rfl, k⟩ | ⟨b, rfl, k⟩
    · cases r; exact call_int_int (hQ _ _ _ _ _ _ k (.refl _) List.prefix_rfl S (.int _ _))
    · cases r; exact call_int_bool (hQ _ _ _ _ _ _ k (.refl _) List.prefix_rfl (S.tok _) (.int _ _))) _ fun _ => rfl)
    PyProof.Rows.Boot.«int» (by simp [biNames]) hx (by simp) hs (by decide) rfl

theorem wp_setItem {w : World} {A : Around} {s : Shared} {E : Value → Shared → Prop} {l : Addr} {o : Obj} {items : Array Value} {ne : Nat} {k : Int} {t : Tok} {v : Value} {Q : Unit → Shared → Prop} (ho : s.heap.get? l = some o) (hc : o.cls = .type "list") (hd : o.data = .seq items ne)
    (h0 : 0 ≤ k) (hfit : k < 2 ^ 63) (hn : k < items.size)
    (hQ : ∀ h' o', h'.get? l = some o' → o'.cls = .type "list" → o'.dict = o.dict → (∃ n', o'.data = .seq (items.setIfInBounds k.toNat v) n') → Heap.SameBut l s.heap h' → Q () { s with heap := h' }) :
    wpAny (model pw w) A (setItem (.ref l) (.int k t) v) Q E s := by
  have hl : s.heap.IsList l items := ⟨o, ho, hc, ne, hd⟩
  unfold setItem
  try with_reducible refine wpAny_holding ?_
  first | refine wpAny_bind (wpAny_pure ?_) | skip
  refine wpAny_bind (wpAny_sequenceKey hl.typeIs (by decide) ?_)
  refine wpAny_bind (wpAny_callSpecial?_slot (name := Str.ofString "__setitem__") hl.typeIs slot_list_setitem
    (wpAny_call_entry slot_list_setitem hl.typeIs entry_list_setitem ?_ (args_list_setitem _ _ _)))
  show wpAny _ _ (Builtin.List.listSubscript? (.int k t) >>= _) _ _ s
  refine wpAny_bind (wpAny_listSubscript_int (fitsIndex_of h0 hfit) ?_)
  clear hfit
  obtain ⟨j, rfl⟩ := Int.eq_ofNat_of_zero_le h0
  have hj : j < items.size := by (exact Int.ofNat_lt.mp hn)
  have hx' : items[j]? = some items[j] := Array.getElem?_eq_getElem hj
  show wpAny _ _ ((seqItemAt l j >>= fun r => pure (r.map (j, ·))) >>= _) _ _ s
  refine wpAny_bind (wpAny_bind (wpAny_seqItemAt ho hd (wpAny_pure ?_)))
  rw [hx']
  show wpAny _ _ (setSeqItemAt l j v >>= _) _ _ s
  obtain ⟨n', hd'⟩ := Obj.data_mapSeq hd (·.setIfInBounds j v)
  have hdn : (Obj.mapSeq (·.setIfInBounds j v) o).dict = o.dict := by obtain ⟨c, d, dt, sl⟩ := o; cases dt <;> rfl
  have fin := hQ _ _ (Heap.get?_update_self _ ho (Obj.isFreed_of_seq hd')) ((Obj.cls_mapSeq ..).trans hc) hdn ⟨n', hd'⟩ (Heap.SameBut.update ..)
  refine wpAny_bind (wpAny_setSeqItemAt ho hd ?_)
  first
    | exact wpAny_bind (wpAny_pure (wpAny_pure ⟨.none, rfl, wpAny_pure fin⟩))
    | exact wpAny_pure ⟨.none, rfl, wpAny_pure fin⟩

/-- an item of a changed list is set: x[i] = e -/
theorem Ex1.setitem {x : Str} {i : Nat} {e ie : Expr} {ps pt : Pos} (hx : Δ.lookup x = some (.obj i)) (h : Ev B a Δ μ e fun d μ1 => Ev B a Δ μ1 ie fun di μ2 => ∃ j ds, di = .int j ∧ d.tree = true ∧ μ2[i]? = some (.list ds) ∧ 0 ≤ j ∧ j < ds.length ∧ ds.length < 2 ^ 60 ∧ Kn Δ (μ2.set i (.list (ds.set j.toNat d))))
    (hs : swapsWith e (some (.Subscript (.Name x ps) ie pt)) pos.line a.env = pure false := by rfl) (hd : (x == ("__debug__" : Str)) = false := by rfl) :
    Ex1 B a Δ μ (.Assign [.Subscript (.Name x ps) ie pt] e pos) Kn Kr := fun ok C ρ s S Q E hn hr hE => by
  refine wpAny_Assign_Subscript (h ok C ρ s S _ E (fun v d C1 ρ1 μ1 s1 k1 c1 p1 S1 r1 => wpAny_Name (wp_name ok S1 hx fun ov hov => ?_) hd) hE) hs
  refine k1 ok C1 ρ1 s1 S1 _ E (fun iv di C2 ρ2 μ2 s2 k2 c2 p2 S2 r2 => ?_) (hE.mono c1)
  obtain ⟨j, ds, rfl, ht, hm, h0, h1, h2, hk⟩ := k2
  obtain ⟨_, rfl⟩ := Rd.intI r2
  obtain ⟨b, hb, rfl⟩ := hov.mono (d := .obj i) c2 p2
  obtain ⟨o, vs, n, ho, hc, hdd, rr, hdn⟩ := S2.mu.at_ i b _ hb hm
  have hlen := rr.length
  rw [Array.length_toList] at hlen
  refine wp_setItem ho hc hdd h0 (by (exact ob20 h1 h2)) (by rw [hlen]; exact h1) fun h' o' ho' hc' hdn' ⟨n', hd'⟩ hs' => ?_
  have rv := (r1.mono c2 p2).rd ht
  exact hn _ _ _ _ _ hk (c1.trans c2) (p1.trans p2) (S2.setM (tk := s2.toks) hb hm rfl hs' ⟨o', _, n', ho', hc', hd', by rw [Array.toList_setIfInBounds]; exact rr.set _ rv, hdn'.trans hdn⟩)
end
/-! B9 -/
noncomputable def OsAt (h : Heap) (os : List (Addr × Obj)) : Prop := ∀ p ∈ os, h.get? p.1 = some p.2
noncomputable def OffOs (os : List (Addr × Obj)) (h h' : Heap) : Prop := ∀ b o, b ∉ os.map (·.1) → h.get? b = some o → h'.get? b = some o
noncomputable def NoDict (o : Obj) : Prop := (∀ es n, o.data ≠ .dict es n) ∧ (∀ v, o.data ≠ .cell v)
theorem NoDict.fields {o : Obj} {vs : Array Value} (h : o.data = .fields vs) : NoDict o := ⟨fun _ _ q => (by rw [h] at q; cases q), fun _ q => (by rw [h] at q; cases q)⟩
theorem NoDict.seq {o : Obj} {vs : Array Value} {n : Nat} (h : o.data = .seq vs n) : NoDict o := ⟨fun _ _ q => (by rw [h] at q; cases q), fun _ q => (by rw [h] at q; cases q)⟩
noncomputable def ItemIs (C : Cold) (h h' : Heap) (v : Value) (d : D) : Prop :=
  Rd C v d ∨ ∃ T o vs n ds, v = .ref T ∧ h.objs.size ≤ T ∧ h'.get? T = some o ∧ o.cls = .type "tuple" ∧ o.data = .seq (List.toArray vs) n ∧ RdAll C vs ds ∧ d = .tuple ds

/-- with the reserved objects as they stand the iterator yields these items and no more -/
noncomputable def Yields (tg : Expr) (it : Value) (C : Cold) : List (Addr × Obj) → List D → Prop
  | os, [] => ∀ (w : World) (A : Around) (s : Shared) (Q : Option Value → Shared → Prop) (E : Value → Shared → Prop), A.handled = none → C.In s.heap → OsAt s.heap os →
      (∀ h', OffOs os s.heap h' → Q none { s with heap := h' }) → wpAny (model pw w) A (pyNext it) Q E s
  | os, d :: ds => ∀ (w : World) (A : Around) (s : Shared) (Q : Option Value → Shared → Prop) (E : Value → Shared → Prop), A.handled = none → C.In s.heap → OsAt s.heap os →
      (∀ v h' tk os', os'.map (·.1) = os.map (·.1) → OsAt h' os' → (∀ p ∈ os', NoDict p.2) → OffOs os s.heap h' → ItemIs C s.heap h' v d → Yields tg it C os' ds → Q (some v) { s with heap := h', toks := tk }) →
      wpAny (model pw w) A (pyNext it) (fun r s1 => match r with
        | none => Q none s1
        | some v => wpAny (model pw w) A (letOwnedTupleGo tg it v) (fun _ s2 => Q (some v) s2) E s1) E s

section
variable {B : Bs} {a : Act} {Δ Δ' : DE} {C C' : Cold} {ρ : List Addr} {μ : List MO} {s : Shared} {os os' r : List (Addr × Obj)}

theorem St.off (S : St B (a.wit (os ++ r)) Δ C ρ μ s) {h' : Heap} {tk : Nat} (off : OffOs os s.heap h') :
    St B (a.wit r) Δ C ρ μ { s with heap := h', toks := tk } := by
  have inOs : ∀ b ∈ os.map (·.1), ∃ p ∈ os ++ r, p.1 = b := fun b hb => by
    obtain ⟨p, hp, e⟩ := List.mem_map.mp hb; exact ⟨p, List.mem_append_left _ hp, e⟩
  have keep : ∀ b o, (b ∈ os.map (·.1) → False) → s.heap.get? b = some o → h'.get? b = some o := fun b o hb e => off b o hb e
  have its := S.its
  have notDict : ∀ b o, s.heap.get? b = some o → ((∃ es n, o.data = .dict es n) ∨ ∃ v, o.data = .cell v) → b ∈ os.map (·.1) → False := fun b o ho hd hb => by
    obtain ⟨p, hp, rfl⟩ := inOs b hb
    obtain ⟨_, _, x3, x4, x5, _⟩ := its p hp
    rw [ho] at x3; cases x3
    rcases hd with ⟨es, n, h⟩ | ⟨v, h⟩
    · exact x4 _ _ h
    · exact x5 _ h
  have cell : ∀ c v, s.heap.IsCell c v → h'.IsCell c v := fun c v ⟨o, ho, hd⟩ => ⟨o, keep c o (notDict c o ho (.inr ⟨_, hd⟩)) ho, hd⟩
  exact {
    base := S.base.to fun b o e => keep b o (fun hb => by obtain ⟨p, hp, rfl⟩ := inOs b hb; rw [(its p hp).2.1] at e; cases e) (S.base.keep b o e)
    cold := fun b p e => by
      obtain ⟨o, ho, q⟩ := S.cold b p e
      exact ⟨o, keep b o (fun hb => by obtain ⟨p', hp, rfl⟩ := inOs b hb; rw [(its p' hp).1] at e; cases e) ho, q⟩
    mu := { len := S.mu.len, inj := S.mu.inj, new := S.mu.new
            at_ := fun i b o e f => by
              cases l : o.live with
              | false => cases o <;> first | trivial | cases l
              | true => exact (S.mu.at_ i b o e f).keeps (.refl _) fun o' h1 => keep b o' (fun hb => by obtain ⟨p', hp, rfl⟩ := inOs b hb; exact (its p' hp).2.2.2.2.2 i _ o e f l rfl) h1 }
    nL := S.nL
    bL := S.bL
    nW := fun p hp => let ⟨x1, x2, v, hv⟩ := S.nW p hp; ⟨x1, x2, v, cell _ _ hv⟩
    ns := by
      obtain ⟨m, hn, q⟩ := S.ns
      obtain ⟨oL, es, ep, hoL, hdL, hrest⟩ := id hn
      refine ⟨m, ⟨oL, es, ep, keep _ _ (notDict _ _ hoL (.inl ⟨_, _, hdL⟩)) hoL, hdL, hrest⟩, fun x d e => ?_⟩
      obtain ⟨v, hv, hb⟩ := q x d e
      refine ⟨v, hv, ?_⟩
      rcases hb with hb | ⟨k1, c, k2, hc⟩
      · exact .inl hb
      · exact .inr ⟨k1, c, k2, cell _ _ hc⟩
    outer := S.outer
    itn := by have := S.itn; rw [List.map_append, List.nodup_append] at this; exact this.2.1
    its := fun p hp => by
      obtain ⟨x1, x2, x3, x4, x5, x6⟩ := its p (List.mem_append_right _ hp)
      refine ⟨x1, x2, keep _ _ (fun hb => ?_) x3, x4, x5, x6⟩
      have := S.itn
      rw [List.map_append, List.nodup_append] at this
      exact this.2.2 p.1 hb p.1 (List.mem_map.mpr ⟨p, hp, rfl⟩) rfl }
theorem St.advance (S : St B (a.wit (os ++ r)) Δ C ρ μ s) {h' : Heap} {tk : Nat} (hk : os'.map (·.1) = os.map (·.1)) (hat : OsAt h' os') (hnd : ∀ p ∈ os', NoDict p.2) (off : OffOs os s.heap h') :
    St B (a.wit (os' ++ r)) Δ C ρ μ { s with heap := h', toks := tk } :=
  let T := S.off (tk := tk) off
  { base := T.base, cold := T.cold, mu := T.mu, nL := T.nL, bL := T.bL, nW := T.nW, ns := T.ns, outer := T.outer
    itn := by have := S.itn; show ((os' ++ r).map (·.1)).Nodup; rw [List.map_append, hk, ← List.map_append]; exact this
    its := fun p hp => by
      rcases List.mem_append.mp hp with hp | hp
      · have : p.1 ∈ os.map (·.1) := by rw [← hk]; exact List.mem_map.mpr ⟨p, hp, rfl⟩
        obtain ⟨p', hp', e⟩ := List.mem_map.mp this
        obtain ⟨x1, x2, _, _, _, x6⟩ := S.its p' (List.mem_append_left _ hp')
        rw [e] at x1 x2 x6
        exact ⟨x1, x2, hat p hp, (hnd p hp).1, (hnd p hp).2, x6⟩
      · exact T.its p hp }

theorem St.start (S : St B a Δ C ρ μ s) {h' : Heap} {tk : Nat} (k : ∀ b o, s.heap.get? b = some o → h'.get? b = some o) (hnew : ∀ p ∈ os, s.heap.objs.size ≤ p.1) (hn : (os.map (·.1)).Nodup) (hat : OsAt h' os) (hnd : ∀ p ∈ os, NoDict p.2) :
    St B (a.wit (os ++ a.its)) Δ C ρ μ { s with heap := h', toks := tk } :=
  let T := S.keep0 (tk := tk) k
  { base := T.base, cold := T.cold, mu := T.mu, nL := T.nL, bL := T.bL, nW := T.nW, ns := T.ns, outer := T.outer
    itn := by
      show ((os ++ a.its).map (·.1)).Nodup
      rw [List.map_append, List.nodup_append]
      refine ⟨hn, S.itn, fun b hb c hc e => ?_⟩
      subst e
      obtain ⟨p, hp, rfl⟩ := List.mem_map.mp hb
      obtain ⟨q, hq, e⟩ := List.mem_map.mp hc
      have := Heap.lt_size (S.its q hq).2.2.1
      have h2 := hnew p hp
      rw [e] at this
      exact absurd this (Nat.not_lt.mpr h2)
    its := fun p hp => by
      rcases List.mem_append.mp hp with hp | hp
      · have f := S.fresh (hnew p hp)
        exact ⟨f.1, f.2, hat p hp, (hnd p hp).1, (hnd p hp).2, fun i b o e q l h => absurd (S.mu.lt e q l) (Nat.not_lt.mpr (h ▸ hnew p hp))⟩
      · exact T.its p hp }
theorem St.drop (S : St B (a.wit (os ++ r)) Δ C ρ μ s) : St B (a.wit r) Δ C ρ μ s :=
  { base := S.base, cold := S.cold, mu := S.mu, nL := S.nL, bL := S.bL, nW := S.nW, ns := S.ns, outer := S.outer
    itn := by have := S.itn; rw [List.map_append, List.nodup_append] at this; exact this.2.1
    its := fun p hp => S.its p (List.mem_append_right _ hp) }
theorem St.osAt (S : St B (a.wit (os ++ r)) Δ C ρ μ s) : OsAt s.heap os := fun p hp => (S.its p (List.mem_append_left _ hp)).2.2.1
end

theorem wit_self (a : Act) : a.wit a.its = a := rfl
theorem ActOk.wit {B : Bs} {a : Act} (ok : ActOk B a) (r) : ActOk B (a.wit r) := { ok with }

/-- an iterator is its own iterator -/
noncomputable def SelfIt (it : Value) (C : Cold) (os : List (Addr × Obj)) : Prop := ∀ (w : World) (A : Around) (s : Shared) (Q : Value → Shared → Prop) (E : Value → Shared → Prop), C.In s.heap → OsAt s.heap os → Q it s → wpAny (model pw w) A (pyIter it) Q E s
/-- an expression, and the iterator made of its value -/
noncomputable def EvIter (B : Bs) (a : Act) (Δ : DE) (μ : List MO) (tg : Expr) (e : Expr) (K : List D → List MO → Prop) : Prop :=
  ActOk B a → ∀ C ρ s, St B a Δ C ρ μ s → ∀ (Q : Value → Shared → Prop) (E : Value → Shared → Prop),
    (∀ it os items C' ρ' μ' s', K items μ' → C.le C' → ρ <+: ρ' → St B (a.wit (os ++ a.its)) Δ C' ρ' μ' s' → Yields tg it C' os items → SelfIt it C' os → Q it s') → FltOk B (sfC B) a C E →
    wpAny (model pw B.w) a.A (eval e a.env) (fun x s1 => wpAny (model pw B.w) a.A (pyIter x) Q E s1) E s

inductive BindT (a : Act) : Expr → D → DE → Prop
  | name (x : Str) (p : Pos) (d : D) : StoreOk a x → BindT a (.Name x p) d [(x, d)]
  | pair (x y : Str) (p q : Pos) (k : Nat) (pos : Pos) (d e : D) : StoreOk a x → StoreOk a y → BindT a (.Tuple [.Name x p, .Name y q] k pos) (.tuple [d, e]) [(y, e), (x, d)]

theorem wp_bindT {B : Bs} {a : Act} {Δ : DE} {C : Cold} {ρ : List Addr} {μ : List MO} {s : Shared} {tg : Expr} {v : Value} {d : D} {b : DE} {Q : Unit → Shared → Prop} {E : Value → Shared → Prop} (ok : ActOk B a) (S : St B a Δ C ρ μ s)
    (hb : BindT a tg d b) (hv : VRd C ρ v d) (hQ : ∀ s', St B a (b ++ Δ) C ρ μ s' → Q () s') : wpAny (model pw B.w) a.A (PySem.assign tg a.env v) Q E s := by
  cases hb with
  | name x px d h1 => exact PyProof.Rows.assign_Name (wp_store ok S h1 hv fun s' S' => hQ s' S')
  | pair x y px py k pos d e h1 h2 =>
    obtain ⟨l, vs, rfl, hl, r⟩ := Rd.isTup hv S.cold
    have r' := VAll.of (ρ := ρ) r
    obtain ⟨v, w, rfl, r1, r2⟩ := r'.twov
    refine PyProof.Rows.assign_Tuple_tuple ok.hh hl (by rfl) (by rfl) fun h' he => ?_
    have S' := S.keep0 (h' := h') (tk := s.toks) fun b o hb => he b o (Nat.ne_of_lt (Heap.lt_size hb)) hb
    refine PyProof.Rows.assignInOrder_cons (PyProof.Rows.assign_Name (wp_store ok S' h1 r1 fun s1 S1 => ?_))
    refine PyProof.Rows.assignInOrder_cons (PyProof.Rows.assign_Name (wp_store ok S1 h2 r2 fun s2 S2 => ?_))
    exact PyProof.Rows.assignInOrder_nil (hQ _ S2)

/-- a for's turns -/
noncomputable def ForK (B : Bs) (a : Act) (tg : Expr) (body : List Stmt) (Kn : DE → List MO → Prop) (Kr : D → List MO → Prop) : List D → DE → List MO → Prop
  | [], Δ, μ => Kn Δ μ
  | d :: ds, Δ, μ => ∃ b, BindT a tg d b ∧ ∀ r, Ex B (a.wit r) (b ++ Δ) μ body (fun Δ' μ' => ForK B a tg body Kn Kr ds Δ' μ') Kr

theorem Yields.mono {tg : Expr} {it : Value} {C C' : Cold} (le : C.le C') : ∀ {items : List D} {os : List (Addr × Obj)}, Yields tg it C os items → Yields tg it C' os items
  | [], os, h => fun w A s Q E hh ci hat hQ => h w A s Q E hh (ci.mono le) hat hQ
  | d :: ds, os, h => fun w A s Q E hh ci hat hQ => h w A s Q E hh (ci.mono le) hat fun v h' tk os' k1 k2 k3 k4 k5 k6 => hQ v h' tk os' k1 k2 k3 k4 (by
      rcases k5 with k5 | ⟨T, o, vs, n, ds, e1, e2, e3, e4, e5, e6, e7⟩
      · exact .inl (k5.mono le)
      · exact .inr ⟨T, o, vs, n, ds, e1, e2, e3, e4, e5, e6.mono le, e7⟩) (k6.mono le)

section
variable {B : Bs} {a : Act} {Δ : DE} {μ : List MO} {Kn : DE → List MO → Prop} {Kr : D → List MO → Prop} {pos p : Pos}

/-- an item that an iterator yields, in the data -/
theorem St.item {C : Cold} {ρ : List Addr} {s : Shared} {os os' r : List (Addr × Obj)} {v : Value} {d : D} (S : St B (a.wit (os ++ r)) Δ C ρ μ s) {h' : Heap} {tk : Nat} (hk : os'.map (·.1) = os.map (·.1)) (hat : OsAt h' os') (hnd : ∀ p ∈ os', NoDict p.2) (off : OffOs os s.heap h')
    (hi : ItemIs C s.heap h' v d) : ∃ C', C.le C' ∧ St B (a.wit (os' ++ r)) Δ C' ρ μ { s with heap := h', toks := tk } ∧ VRd C' ρ v d := by
  have S1 := S.advance (tk := tk) hk hat hnd off
  rcases hi with hi | ⟨T, o, vs, n, ds, rfl, hT, ho, hc, hd, hr, rfl⟩
  · exact ⟨C, .refl _, S1, .of hi⟩
  · have hCT := (S.fresh hT).1
    have le := Cold.le_put (p := (true, o)) hCT
    refine ⟨C.put T (true, o), le, ?_, .of (.tuple (Cold.put_self _ _ _) hc hd (hr.mono le))⟩
    have lt : ∀ b, b < s.heap.objs.size → b ≠ T := fun b hb => Nat.ne_of_lt (Nat.lt_of_lt_of_le hb hT)
    have nw : ∀ b, b < s.heap.objs.size → C b = none → (C.put T (true, o)) b = none := fun b hb e => by rw [Cold.put_ne _ _ (lt b hb)]; exact e
    exact { base := S1.base, bL := S1.bL, itn := S1.itn
            cold := fun b p e => by
              by_cases h : b = T
              · subst h; rw [Cold.put_self] at e; cases e; exact ⟨o, ho, .rfl _⟩
              · rw [Cold.put_ne _ _ h] at e; exact S1.cold b p e
            mu := { len := S1.mu.len, inj := S1.mu.inj, at_ := fun i b o e f => (S1.mu.at_ i b o e f).keeps le fun _ h => h
                    new := fun i b o e f l => ⟨nw b (S.mu.lt e f l) (S.mu.new i b o e f l).1, (S.mu.new i b o e f l).2⟩ }
            nL := nw _ S.ltL S.nL
            nW := fun q hq => let ⟨x1, x2, w, hw⟩ := S1.nW q hq; let ⟨_, _, _, o', ho', _⟩ := S.nW q hq; ⟨nw _ (Heap.lt_size ho') x1, x2, w, hw⟩
            ns := let ⟨m, hn, q⟩ := S1.ns; ⟨m, hn, fun x d e => let ⟨v, hv, hb⟩ := q x d e; ⟨v, hv.mono le List.prefix_rfl, hb⟩⟩
            outer := fun l e => (S1.outer l e).mono le
            its := fun q hq => by
              obtain ⟨x1, x2, x3, x4, x5, x6⟩ := S1.its q hq
              refine ⟨?_, x2, x3, x4, x5, x6⟩
              have hlt : q.1 < s.heap.objs.size := by
                have : q.1 ∈ (os ++ r).map (·.1) := by rw [List.map_append, ← hk, ← List.map_append]; exact List.mem_map.mpr ⟨q, hq, rfl⟩
                obtain ⟨q', hq', e⟩ := List.mem_map.mp this
                rw [← e]; exact Heap.lt_size (S.its q' hq').2.2.1
              exact nw _ hlt x1 }

structure ForInv (B : Bs) (a : Act) (tg : Expr) (body : List Stmt) (Kn : DE → List MO → Prop) (Kr : D → List MO → Prop) (it : Value) (C : Cold) (ρ : List Addr) (n : Nat) (s' : Shared) : Prop where
  out : ∃ items Δ' C' ρ' μ' os, n = items.length + 1 ∧ ForK B a tg body Kn Kr items Δ' μ' ∧ C.le C' ∧ ρ <+: ρ' ∧ St B (a.wit (os ++ a.its)) Δ' C' ρ' μ' s' ∧ Yields tg it C' os items

theorem BindT.wit {tg : Expr} {d : D} {b : DE} {r} (h : BindT a tg d b) : BindT (a.wit r) tg d b := by
  cases h with
  | name x p d h => exact .name x p d h
  | pair x y p q k pos d e h1 h2 => exact .pair x y p q k pos d e h1 h2

theorem flt_loop (ok : ActOk B a) {C C' : Cold} (c : C.le C') {E : Value → Shared → Prop} (hE : FltOk B (sfC B) a C E) : FltOk B (sfC B) a C' (notedBy (model pw B.w) a.A a.env fun e s' => cameBackBy (model pw B.w) a.A a.env E e s') := fun l hl e s' b f =>
    fault_back (E' := E) (ok.fr l hl).1 (ok.fr l hl).2 (fun e' h' fa => hE l hl e' _ (by
      obtain ⟨Bh, k, st⟩ := fa
      exact b.to (tk := s'.toks) fun c o e => by
        have hk := k.1 c o e
        cases st with
        | made h1 y1 y2 y3 => exact y3.keeps _ _ (y1 _ _ hk)
        | fly a0 y => exact y.1 _ _ hk
        | held a0 y => exact y.1 _ _ hk) (fa.mono c)) f

theorem Ex1.for_ {tg iter : Expr} {body : List Stmt} (h : EvIter B a Δ μ tg iter fun items μ1 => ForK B a tg body Kn Kr items Δ μ1)
    (hs : ∀ x, foldedSetIterable iter a.env x = pure x := by intro _; rfl) : Ex1 B a Δ μ (.For tg iter body [] pos) Kn Kr := fun ok C ρ s S Q E hn hr hE => by
  refine PySem.wpAny_For (h ok C ρ s S _ E (fun it os items C1 ρ1 μ1 s1 k1 c1 p1 S1 y1 _ => ?_) hE) hs
  refine codeAny_forLoop_any (ForInv B a tg body Kn Kr it C ρ) ?_ (items.length + 1) ⟨items, Δ, C1, ρ1, μ1, os, rfl, k1, c1, p1, S1, y1⟩
  rintro n s2 ⟨items, Δ2, C2, ρ2, μ2, os, rfl, k2, c2, p2, S2, y2⟩
  cases items with
  | nil =>
    refine y2 _ _ _ _ _ ok.hh S2.cold S2.osAt fun h' off => ?_
    refine wpAny_execs_nil ?_
    exact hn _ _ _ _ _ k2 c2 p2 (S2.off (tk := s2.toks) off)
  | cons d ds =>
    obtain ⟨b, hb, hbody⟩ := k2
    refine wpAny_mono (y2 _ _ _ (fun r s3 => match r with
      | none => False
      | some v => wpAny (model pw B.w) a.A (PySem.assign tg a.env v) (fun _ s4 => wpAny (model pw B.w) a.A (execs body a.env) (fun f s5 => match f with
            | .next | .cont => ∃ m, m < (d :: ds).length + 1 ∧ ForInv B a tg body Kn Kr it C ρ m s5
            | .brk => Q .next s5
            | .ret v => Q (.ret v) s5) (notedBy (model pw B.w) a.A a.env fun e s' => cameBackBy (model pw B.w) a.A a.env E e s') s4) (notedBy (model pw B.w) a.A a.env fun e s' => cameBackBy (model pw B.w) a.A a.env E e s') s3)
        (notedBy (model pw B.w) a.A a.env fun e s' => cameBackBy (model pw B.w) a.A a.env E e s') ok.hh S2.cold S2.osAt fun v h' tk os' e1 e2 e3 e4 e5 e6 => ?_) (fun r s3 h3 => ?_) fun _ _ x => x
    · obtain ⟨C3, c3, S3, rv⟩ := S2.item (tk := tk) e1 e2 e3 e4 e5
      refine wp_bindT (a := a.wit (os' ++ a.its)) (ok.wit _) S3 hb.wit rv fun s4 S4 => ?_
      refine hbody _ (ok.wit _) C3 ρ2 _ S4 _ _ (fun Δ' C' ρ' μ' s' k c p S' => ?_) (fun v d Δ' C' ρ' μ' s' k c p S' r' => ?_) (flt_loop ok (c2.trans c3) hE)
      · exact ⟨ds.length + 1, by simp, ds, Δ', C', ρ', μ', os', rfl, k, c2.trans (c3.trans c), p2.trans p, S', e6.mono (c3.trans c)⟩
      · exact hr v d Δ' C' ρ' μ' s' k (c2.trans (c3.trans c)) (p2.trans p) S'.drop r'
    · cases r with
      | none => exact h3.elim
      | some v => exact h3

/-- a while's turns, by a measure -/
noncomputable def WhileK (B : Bs) (a : Act) (t : Expr) (body : List Stmt) (Kn : DE → List MO → Prop) (Kr : D → List MO → Prop) (I : Nat → DE → List MO → Prop) : Prop :=
  ∀ n Δ μ, I n Δ μ → EvB B a Δ μ t fun c μ1 => if c then Ex B a Δ μ1 body (fun Δ' μ' => ∃ m, m < n ∧ I m Δ' μ') Kr else Kn Δ μ1
structure WhInv (B : Bs) (a : Act) (I : Nat → DE → List MO → Prop) (C : Cold) (ρ : List Addr) (n : Nat) (s' : Shared) : Prop where
  out : ∃ Δ' C' ρ' μ', I n Δ' μ' ∧ C.le C' ∧ ρ <+: ρ' ∧ St B a Δ' C' ρ' μ' s'
theorem Ex1.while_ {t : Expr} {body : List Stmt} (I : Nat → DE → List MO → Prop) (n : Nat) (h0 : I n Δ μ) (h : WhileK B a t body Kn Kr I) : Ex1 B a Δ μ (.While t body [] pos) Kn Kr := fun ok C ρ s S Q E hn hr hE => by
  refine wpAny_While (codeAny_whileLoop (WhInv B a I C ρ) ?_ n ⟨Δ, C, ρ, μ, h0, .refl _, List.prefix_rfl, S⟩)
  rintro n s2 ⟨Δ2, C2, ρ2, μ2, k2, c2, p2, S2⟩
  refine h n Δ2 μ2 k2 ok C2 ρ2 s2 S2 _ _ (fun c C3 ρ3 μ3 s3 k3 c3 p3 S3 => ?_) (flt_loop ok c2 hE)
  cases c with
  | true =>
    simp only [if_true] at k3 ⊢
    refine k3 ok C3 ρ3 s3 S3 _ _ (fun Δ' C' ρ' μ' s' k c p S' => ?_) (fun v d Δ' C' ρ' μ' s' k c p S' r' => ?_) (flt_loop ok (c2.trans c3) hE)
    · obtain ⟨m, hm, hI⟩ := k
      exact ⟨m, hm, Δ', C', ρ', μ', hI, c2.trans (c3.trans c), p2.trans (p3.trans p), S'⟩
    · exact hr v d Δ' C' ρ' μ' s' k (c2.trans (c3.trans c)) (p2.trans (p3.trans p)) S' r'
  | false =>
    simp only [Bool.false_eq_true, if_false] at k3 ⊢
    exact wpAny_execs_nil (hn _ _ _ _ _ k3 (c2.trans c3) (p2.trans p3) S3)
end
/-! B10 -/
noncomputable def owners : List String := ["enumerate", "zip", "dict_itemiterator", "dict_reverseitemiterator", "odict_iterator", "itertools.zip_longest", "itertools.pairwise"]
theorem letGo_plain {w : World} {A : Around} {s : Shared} {Q : Unit → Shared → Prop} {E : Value → Shared → Prop} {tg : Expr} {it : Addr} {v : Value} {o : Obj} {n : String} (ho : s.heap.get? it = some o) (hc : o.cls = .type n) (hn : owners.contains n = false) (h : Q () s) :
    wpAny (model pw w) A (letOwnedTupleGo tg (.ref it) v) Q E s := by
  have key : ∀ a : Addr, wpAny (model pw w) A (do
      let o ← load it
      match o.cls, o.data with
      | .type n, .fields vs =>
        if ["enumerate", "zip", "dict_itemiterator", "dict_reverseitemiterator", "odict_iterator", "itertools.zip_longest", "itertools.pairwise"].contains n && vs[0]? == some (rawInt a) then
          rule "for.unpacks-the-owned-tuple"
          updateField it 0 .none
      | _, _ => pure () : Sem Unit) Q E s := fun a => by
    refine wpAny_bind (wpAny_load ho ?_)
    rw [hc]
    cases hd : o.data with
    | fields vs =>
      show wpAny _ _ (if (owners.contains n && vs[0]? == some (rawInt a)) = true then _ else _) _ _ _
      rw [if_neg (by rw [hn]; simp)]
      exact wpAny_pure h
    | _ => exact wpAny_pure h
  unfold letOwnedTupleGo
  cases tg with
  | Tuple => cases v <;> first | exact wpAny_pure h | exact key _
  | List => cases v <;> first | exact wpAny_pure h | exact key _
  | _ => exact wpAny_pure h

/-- an iterator that is one object of its own -/
structure Simple (it : Addr) (C : Cold) (ds : List D) (P : Nat → Obj → Prop) : Prop where
  plain : ∀ i o, P i o → NoDict o ∧ ∃ n, o.cls = .type n ∧ owners.contains n = false
  item : ∀ (i : Nat) (d : D) (w : World) (A : Around) (s : Shared) (Q : Option Value → Shared → Prop) (E : Value → Shared → Prop) (o : Obj), ds[i]? = some d → A.handled = none → C.In s.heap → s.heap.get? it = some o → P i o →
    (∀ v h' tk o', h'.get? it = some o' → P (i + 1) o' → (∀ b o, b ≠ it → s.heap.get? b = some o → h'.get? b = some o) → Rd C v d → Q (some v) { s with heap := h', toks := tk }) → wpAny (model pw w) A (pyNext (.ref it)) Q E s
  self : ∀ (i : Nat) (w : World) (A : Around) (s : Shared) (Q : Value → Shared → Prop) (E : Value → Shared → Prop) (o : Obj), s.heap.get? it = some o → P i o → Q (.ref it) s → wpAny (model pw w) A (pyIter (.ref it)) Q E s
  done : ∀ (w : World) (A : Around) (s : Shared) (Q : Option Value → Shared → Prop) (E : Value → Shared → Prop) (o : Obj), A.handled = none → C.In s.heap → s.heap.get? it = some o → P ds.length o →
    (∀ h', (∀ b o, b ≠ it → s.heap.get? b = some o → h'.get? b = some o) → Q none { s with heap := h' }) → wpAny (model pw w) A (pyNext (.ref it)) Q E s

theorem Simple.yields {it : Addr} {C : Cold} {ds : List D} {P : Nat → Obj → Prop} (H : Simple it C ds P) (tg : Expr) : ∀ (k i : Nat) (o : Obj), k + i = ds.length → P i o → Yields tg (.ref it) C [(it, o)] (ds.drop i)
  | 0, i, o, hk, hP => by
    have hi : i = ds.length := by (exact ob21 hk)
    subst hi
    rw [List.drop_length]
    intro w A s Q E hh ci hat hQ
    refine H.done w A s Q E o hh ci (hat (it, o) (.head _)) hP fun h' hk => hQ h' fun b o' hb e => hk b o' (fun q => hb (by simp [q])) e
  | k + 1, i, o, hk, hP => by
    have hi : i < ds.length := by (exact ob22 hk)
    rw [List.drop_eq_getElem_cons hi]
    intro w A s Q E hh ci hat hQ
    refine H.item i ds[i] w A s _ E o (List.getElem?_eq_getElem hi) hh ci (hat (it, o) (.head _)) hP fun v h' tk o' ho' hP' hk' hr => ?_
    obtain ⟨hnd, n, hc, hn⟩ := H.plain _ _ hP'
    refine letGo_plain ho' hc hn ?_
    refine hQ v h' tk [(it, o')] rfl (fun p hp => by rw [List.mem_singleton.mp hp]; exact ho') (fun p hp => by rw [List.mem_singleton.mp hp]; exact hnd) (fun b o hb e => hk' b o (fun q => hb (by simp [q])) e) (.inl hr)
      (Simple.yields H tg k (i + 1) o' (by (exact ob23 hk)) hP')

section
variable {B : Bs} {a : Act} {Δ : DE} {C : Cold} {ρ : List Addr} {μ : List MO} {s : Shared} {tg : Expr}
/-- a simple iterator just made -/
theorem St.iter1 (S : St B a Δ C ρ μ s) {o : Obj} {ds : List D} {P : Nat → Obj → Prop} (H : Simple s.heap.objs.size C ds P) (hP : P 0 o) (hf : o.isFreed = false) (tk : Nat) :
    St B (a.wit ([(s.heap.objs.size, o)] ++ a.its)) Δ C ρ μ { s with heap := s.heap.push o, toks := tk } ∧ Yields tg (.ref s.heap.objs.size) C [(s.heap.objs.size, o)] ds ∧ SelfIt (.ref s.heap.objs.size) C [(s.heap.objs.size, o)] := by
  obtain ⟨hnd, n, hc, hn⟩ := H.plain _ _ hP
  refine ⟨S.start (fun _ _ e => Heap.get?_push_of_some _ e) (fun p hp => by rw [List.mem_singleton.mp hp]; exact Nat.le_refl _) (by simp) (fun p hp => by rw [List.mem_singleton.mp hp]; exact Heap.get?_push_size _ hf) (fun p hp => by rw [List.mem_singleton.mp hp]; exact hnd), by simpa using Simple.yields H tg ds.length 0 o (by simp) hP, fun w A s' Q E ci hat hQ => H.self 0 w A s' Q E o (hat _ (.head _)) hP hQ⟩

theorem simple_list {it l : Addr} {ol : Obj} {vs : List Value} {n : Nat} {ds : List D} (hl : C l = some (true, ol)) (hc : ol.cls = .type "list") (hd : ol.data = .seq vs.toArray n) (r : RdAll C vs ds) (hne : l ≠ it) :
    Simple it C ds (fun i o => o.cls = .type "list_iterator" ∧ o.data = .fields #[.ref l, .int i 0]) where
  plain := fun i o h => ⟨.fields h.2, _, h.1, by decide⟩
  item := fun i d w A s Q E o hx hh ci ho hP hQ => by
    obtain ⟨o1, ho1, q1, q2, _⟩ := ci _ _ hl
    have L : s.heap.IsList l vs.toArray := ⟨o1, ho1, q1.trans hc, n, q2.trans hd⟩
    obtain ⟨v, hv, rv⟩ := r.get hx
    refine wpAny_pyNext_list_item ⟨o, ho, hP.1, hP.2⟩ L (by simpa using hv) fun h' hit hs => ?_
    obtain ⟨o', ho', hc', hd'⟩ := hit
    exact hQ v h' s.toks o' ho' ⟨hc', hd'⟩ (fun b o hb e => hs.extBut b o hb e) rv
  self := fun i w A s Q E o ho hP hQ => wpAny_pyIter_listiter ⟨o, ho, hP.1, hP.2⟩ hQ
  done := fun w A s Q E o hh ci ho hP hQ => by
    obtain ⟨o1, ho1, q1, q2, _⟩ := ci _ _ hl
    have L : s.heap.IsList l vs.toArray := ⟨o1, ho1, q1.trans hc, n, q2.trans hd⟩
    exact wpAny_pyNext_list_end hh ⟨o, ho, hP.1, hP.2⟩ L (by simp [r.length]) fun h' hs => hQ h' fun b o hb e => hs b o hb e
theorem simple_tuple {it l : Addr} {ol : Obj} {vs : List Value} {n : Nat} {ds : List D} (hl : C l = some (true, ol)) (hc : ol.cls = .type "tuple") (hd : ol.data = .seq vs.toArray n) (r : RdAll C vs ds) (hne : l ≠ it) :
    Simple it C ds (fun i o => o.cls = .type "tuple_iterator" ∧ o.data = .fields #[.ref l, .int i 0]) where
  plain := fun i o h => ⟨.fields h.2, _, h.1, by decide⟩
  item := fun i d w A s Q E o hx hh ci ho hP hQ => by
    obtain ⟨o1, ho1, q1, q2, _⟩ := ci _ _ hl
    have L : IsTup s.heap l vs.toArray := ⟨o1, ho1, q1.trans hc, n, q2.trans hd⟩
    obtain ⟨v, hv, rv⟩ := r.get hx
    refine PyProof.Rows.next_tuple_item ⟨o, ho, hP.1, hP.2⟩ L (by simpa using hv) fun h' hit hs => ?_
    obtain ⟨o', ho', hc', hd'⟩ := hit
    exact hQ v h' s.toks o' ho' ⟨hc', hd'⟩ (fun b o hb e => hs.extBut b o hb e) rv
  self := fun i w A s Q E o ho hP hQ => wpAny_pyIter_tupleiter ⟨o, ho, hP.1, hP.2⟩ hQ
  done := fun w A s Q E o hh ci ho hP hQ => by
    obtain ⟨o1, ho1, q1, q2, _⟩ := ci _ _ hl
    have L : IsTup s.heap l vs.toArray := ⟨o1, ho1, q1.trans hc, n, q2.trans hd⟩
    exact PyProof.Rows.next_tuple_end hh ⟨o, ho, hP.1, hP.2⟩ L (by simp [r.length]) fun h' hs => hQ h' fun b o hb e => hs b o hb e
theorem simple_bytes {it : Addr} {b : Array UInt8} {t : Tok} :
    Simple it C ((KBw.bInts b).map .int) (fun i o => o.cls = .type "bytes_iterator" ∧ o.data = .fields #[.bytes b t, .int i 0]) where
  plain := fun i o h => ⟨.fields h.2, _, h.1, by decide⟩
  item := fun i d w A s Q E o hx hh ci ho hP hQ => by
    rw [List.getElem?_map] at hx
    have hi : i < b.size := by
      cases e : (KBw.bInts b)[i]? with
      | none => rw [e] at hx; cases hx
      | some k => rw [← KBw.ints_length]; exact (List.getElem?_eq_some_iff.mp e).1
    have hb : b[i]? = some b[i] := Array.getElem?_eq_getElem hi
    rw [KBw.ints_get hb] at hx
    cases hx
    refine KBw.next_item (b := b) (t := t) ⟨o, ho, hP.1, hP.2⟩ hb fun h' hit hs => ?_
    obtain ⟨o', ho', hc', hd'⟩ := hit
    exact hQ _ h' _ o' ho' ⟨hc', hd'⟩ (fun b o hb e => hs.extBut b o hb e) (.int _ _)
  self := fun i w A s Q E o ho hP hQ => KBw.pyIter_self (b := b) (t := t) ⟨o, ho, hP.1, hP.2⟩ hQ
  done := fun w A s Q E o hh ci ho hP hQ => by
    exact KBw.next_end (b := b) (t := t) hh ⟨o, ho, hP.1, hP.2⟩ (by simp [KBw.ints_length]) fun h' hs => hQ h' fun b o hb e => hs b o hb e
noncomputable def chars (x : Str) : List D := x.cps.toList.map fun c => .str ⟨#[c]⟩
theorem simple_str {it : Addr} {x : Str} {t : Tok} :
    Simple it C (chars x) (fun i o => o.cls = .type "str_ascii_iterator" ∧ o.data = .fields #[.str x t, .int i 0]) where
  plain := fun i o h => ⟨.fields h.2, _, h.1, by decide⟩
  item := fun i d w A s Q E o hx hh ci ho hP hQ => by
    unfold chars at hx
    rw [List.getElem?_map] at hx
    cases e : x.cps[i]? with
    | none => simp [e] at hx
    | some c =>
      simp [e] at hx
      subst hx
      refine wpAny_pyNext_ascii_item (x := x) (t := t) ⟨o, ho, hP.1, hP.2⟩ e fun h' hit hs => ?_
      obtain ⟨o', ho', hc', hd'⟩ := hit
      exact hQ _ h' _ o' ho' ⟨hc', hd'⟩ (fun b o hb e => hs.extBut b o hb e) (.str _ _)
  self := fun i w A s Q E o ho hP hQ => wpAny_pyIter_striter_ascii (x := x) (t := t) ⟨o, ho, hP.1, hP.2⟩ hQ
  done := fun w A s Q E o hh ci ho hP hQ => by
    exact wpAny_pyNext_ascii_end (x := x) (t := t) hh ⟨o, ho, hP.1, hP.2⟩ (by simp [chars]) fun h' hs => hQ h' fun b o hb e => hs b o hb e
noncomputable def rng (a c : Int) (n : Nat) : List D := (List.range n).map fun (i : Nat) => .int (a + i * c)
theorem simple_range {it : Addr} {x c : Int} {n : Nat} :
    Simple it C (rng x c n) (fun i o => o = { cls := .type "range_iterator", dict := none, data := .fields #[rawInt (x + i * c), rawInt ((n : Int) - i), rawInt c], slots := #[] }) where
  plain := fun i o h => by subst h; exact ⟨.fields rfl, _, rfl, by decide⟩
  item := fun i d w A s Q E o hx hh ci ho hP hQ => by
    subst hP
    unfold rng at hx
    rw [List.getElem?_map] at hx
    by_cases hi : i < n
    · rw [List.getElem?_range hi] at hx
      cases hx
      refine wpAny_pyNext_range_item ho (by (exact ob24 hi)) fun h' hit hs => ?_
      have e1 : x + ((i + 1 : Nat) : Int) * c = x + (i : Int) * c + c := by push_cast; rw [Int.add_mul, Int.one_mul, Int.add_assoc]
      have e2 : (n : Int) - ((i + 1 : Nat) : Int) = (n : Int) - (i : Int) - 1 := by push_cast; (exact ob25)
      refine hQ _ h' _ _ hit (by rw [e1, e2]) (fun b o hb e => hs.extBut b o hb e) (.int _ _)
    · rw [List.getElem?_eq_none (by simpa using hi)] at hx; cases hx
  self := fun i w A s Q E o ho hP hQ => by subst hP; exact wpAny_pyIter_rangeiter ho hQ
  done := fun w A s Q E o hh ci ho hP hQ => by
    subst hP
    have : (rng x c n).length = n := by simp [rng]
    exact wpAny_pyNext_range_end hh ho (by rw [this]; (exact ob26)) fun h' hs => hQ h' fun b o hb e => hs b o hb e

/-- what a datum yields -/
@[reducible] noncomputable def IterD : D → List D → Prop
  | .list ds, is => is = ds
  | .tuple ds, is => is = ds
  | .bytes ns, is => is = ns.map .int
  | .str x, is => is = chars x ∧ x.cps.all (· < 128) = true
  | _, _ => False
theorem iter_data {C : Cold} {ρ : List Addr} {s : Shared} (S : St B a Δ C ρ μ s) {v : Value} {d : D} {is : List D} (hv : VRd C ρ v d) (hd : IterD d is) {Q : Value → Shared → Prop} {E : Value → Shared → Prop}
    (hQ : ∀ it os s', St B (a.wit (os ++ a.its)) Δ C ρ μ s' → Yields tg it C os is → SelfIt it C os → Q it s') : wpAny (model pw B.w) a.A (pyIter v) Q E s := by
  cases d with
  | list ds =>
    cases hd
    obtain ⟨l, ol, vs, n, rfl, e, c, _, dd, r⟩ := Rd.listI hv
    obtain ⟨o1, ho1, q1, q2, _⟩ := S.cold _ _ e
    have lt : l ≠ s.heap.objs.size := Nat.ne_of_lt (Heap.lt_size ho1)
    obtain ⟨x1, x2, x3⟩ := S.iter1 (tg := tg) (simple_list e c dd r lt) (o := { cls := .type "list_iterator", data := .fields #[.ref l, .int 0 0] }) ⟨rfl, rfl⟩ rfl s.toks
    exact wpAny_pyIter_list (items := vs.toArray) ⟨o1, ho1, q1.trans c, n, q2.trans dd⟩ (hQ _ _ _ x1 x2 x3)
  | tuple ds =>
    cases hd
    obtain ⟨l, ol, vs, n, rfl, e, c, dd, r⟩ := Rd.tupI hv
    obtain ⟨o1, ho1, q1, q2, _⟩ := S.cold _ _ e
    have lt : l ≠ s.heap.objs.size := Nat.ne_of_lt (Heap.lt_size ho1)
    obtain ⟨x1, x2, x3⟩ := S.iter1 (tg := tg) (simple_tuple e c dd r lt) (o := { cls := .type "tuple_iterator", data := .fields #[.ref l, .int 0 0] }) ⟨rfl, rfl⟩ rfl s.toks
    exact PyProof.Rows.iter_tuple (items := vs.toArray) ⟨o1, ho1, q1.trans c, n, q2.trans dd⟩ (hQ _ _ _ x1 x2 x3)
  | bytes ns =>
    cases hd
    obtain ⟨b, t, rfl, rfl⟩ := Rd.bytesI hv
    obtain ⟨x1, x2, x3⟩ := S.iter1 (tg := tg) (simple_bytes (b := b) (t := t)) (o := { cls := .type "bytes_iterator", data := .fields #[.bytes b t, .int 0 0] }) ⟨rfl, rfl⟩ rfl s.toks
    exact KBw.pyIter_bytes (hQ _ _ _ x1 x2 x3)
  | str x =>
    obtain ⟨rfl, ha⟩ := hd
    obtain ⟨t, rfl⟩ := Rd.strI hv
    obtain ⟨x1, x2, x3⟩ := S.iter1 (tg := tg) (simple_str (x := x) (t := t)) (o := { cls := .type "str_ascii_iterator", data := .fields #[.str x t, .int 0 0] }) ⟨rfl, rfl⟩ rfl s.toks
    exact wpAny_pyIter_ascii ha (hQ _ _ _ x1 x2 x3)
  | _ => exact hd.elim
theorem EvIter.data {e : Expr} {K : List D → List MO → Prop} (h : Ev B a Δ μ e fun d μ1 => ∃ is, IterD d is ∧ K is μ1) : EvIter B a Δ μ tg e K := fun ok C ρ s S Q E hQ hE =>
  h ok C ρ s S _ E (fun v d C1 ρ1 μ1 s1 k1 c1 p1 S1 r1 => by
    obtain ⟨is, hi, hk⟩ := k1
    exact iter_data S1 r1 hi fun it os s' x1 x2 x3 => hQ it os is C1 ρ1 μ1 s' hk c1 p1 x1 x2 x3) hE
end
/-! B11 -/
theorem St.perm {B : Bs} {a : Act} {Δ : DE} {C : Cold} {ρ : List Addr} {μ : List MO} {s : Shared} {l l' : List (Addr × Obj)} (S : St B (a.wit l) Δ C ρ μ s) (p : l.Perm l') : St B (a.wit l') Δ C ρ μ s :=
  { base := S.base, cold := S.cold, mu := S.mu, nL := S.nL, bL := S.bL, nW := S.nW, ns := S.ns, outer := S.outer
    its := fun q hq => S.its q (p.symm.mem_iff.mp hq)
    itn := (p.map (·.1)).nodup_iff.mp S.itn }

/-- the tests of a comprehension's clause -/
noncomputable def TestK (B : Bs) (a : Act) (Δ : DE) (μ : List MO) : List Expr → (Bool → List MO → Prop) → Prop
  | [], K => K true μ
  | [t], K => EvB B a Δ μ t K
  | _, _ => False

/-- the turns of a comprehension's last clause -/
noncomputable def LastK (B : Bs) (a : Act) (elt tg : Expr) (ifs : List Expr) (K : DE → List MO → List D → Prop) : List D → DE → List MO → List D → Prop
  | [], Δ, μ, outs => K Δ μ outs
  | d :: ds, Δ, μ, outs => ∃ b, BindT a tg d b ∧ ∀ r, TestK B (a.wit r) (b ++ Δ) μ ifs fun ok μ1 =>
      if ok then Ev B (a.wit r) (b ++ Δ) μ1 elt fun d' μ2 => d'.tree = true ∧ outs.length ≤ 16777216 ∧ LastK B a elt tg ifs K ds (b ++ Δ) μ2 (outs ++ [d'])
      else LastK B a elt tg ifs K ds (b ++ Δ) μ1 outs

noncomputable def testsOf (ifs : List Expr) (env : Env) : Sem Bool := forIn ifs true fun c r => if r = true then do let ok ← isTrue c env (eval c env); pure (ForInStep.yield ok) else pure (ForInStep.yield r)
noncomputable def lastTurn (elt tg iter : Expr) (ifs : List Expr) (it acc : Value) (env : Env) (ag : Sem Fin) : Sem Fin := do
  standAt iter.pos
  match ← pyNext it with
  | none => pure (.done .next)
  | some v =>
    letOwnedTupleGo tg it v
    assign tg env v
    let ok ← testsOf ifs env
    if ok then
      (do let _ ← call (.builtin "list.append") [acc, ← eval elt env])
    ag
theorem turn_last1 (elt tg iter : Expr) (ifs : List Expr) (scope : Scope) (pos : Pos) (it acc : Value) (env : Env) :
    compTurn (.ListComp elt [⟨tg, iter, ifs, 0⟩] scope pos) 0 it acc env = lastTurn elt tg iter ifs it acc env (again (.compLoop (.ListComp elt [⟨tg, iter, ifs, 0⟩] scope pos) 0 it acc env)) := by rfl
theorem turn_last2 (elt tg iter t1 i1 : Expr) (ifs if1 : List Expr) (scope : Scope) (pos : Pos) (it acc : Value) (env : Env) :
    compTurn (.ListComp elt [⟨t1, i1, if1, 0⟩, ⟨tg, iter, ifs, 0⟩] scope pos) 1 it acc env = lastTurn elt tg iter ifs it acc env (again (.compLoop (.ListComp elt [⟨t1, i1, if1, 0⟩, ⟨tg, iter, ifs, 0⟩] scope pos) 1 it acc env)) := by rfl
theorem turn_first2 (elt tg iter t1 i1 : Expr) (ifs : List Expr) (scope : Scope) (pos : Pos) (it acc : Value) (env : Env) :
    compTurn (.ListComp elt [⟨t1, i1, [], 0⟩, ⟨tg, iter, ifs, 0⟩] scope pos) 0 it acc env = (do
      standAt i1.pos
      match ← pyNext it with
      | none => pure (.done .next)
      | some v =>
        letOwnedTupleGo t1 it v
        assign t1 env v
        let x ← eval iter env
        standAt iter.pos
        let x ← foldedSetIterable iter env x
        let _ ← runOwn (.compStart (.ListComp elt [⟨t1, i1, [], 0⟩, ⟨tg, iter, ifs, 0⟩] scope pos) 1 (← holding [x] (pyIter x)) acc env) env
        again (.compLoop (.ListComp elt [⟨t1, i1, [], 0⟩, ⟨tg, iter, ifs, 0⟩] scope pos) 0 it acc env)) := by rfl

theorem compStart_any {e elt : Expr} {gens : List Comprehension} {scope : Scope} {pos : Pos} (he : e = .ListComp elt gens scope pos) {k : Nat} {w : World} {A : Around} {R : Result → Shared → Prop} {s : Shared} {it acc : Value} {env : Env} (ha : ((clausesOf e)[k]?).elim false (·.is_async != 0) = false)
    (h0 : codeAny (model pw w) A (.compLoop e k it acc env) R s)
    (h : ∀ E, wpAny (model pw w) A (pyIter it) (fun it' s' => it' = it ∧ s' = s) E s) :
    codeAny (model pw w) A (.compStart e k it acc env) R s := by
  subst he
  refine codeAny_of_tree ?_
  show wpAny _ _ ((compStart (.ListComp elt gens scope pos) k it acc env).onRaise (fun x => do noteFrame x env; standAt theWindowsPlace)) _ _ s
  have hund : A.under (.compStart (.ListComp elt gens scope pos) k it acc env) = A := rfl
  rw [hund]
  refine wpAny_notedAt ?_
  unfold compStart
  rw [ha]
  show wpAny _ _ (ask >>= _) _ _ s
  refine wpAny_bind (wpAny_askSetting (wpAny_ite ?_))
  have h1 : wpAny (model pw w) A (do again (.compLoop (.ListComp elt gens scope pos) k (← pyIter it) acc env) : Sem Fin) (fun fin s' => match fin with
      | .done f => R (.ok f) s'
      | .again c => c.quiet = true ∧ codeAny (model pw w) A c R s') (notedBy (model pw w) A env fun x s' => R (.error x) s') s :=
    wpAny_bind (wpAny_mono (h _) (fun it' s' h' => by obtain ⟨rfl, rfl⟩ := h'; exact wpAny_pure ⟨rfl, h0⟩) fun _ _ x => x)
  split
  · exact wpAny_pure ⟨rfl, h0⟩
  · refine wpAny_bind (wpAny_rule ?_)
    cases (clausesOf (.ListComp elt gens scope pos))[k]? with
    | none => exact h1
    | some g => exact wpAny_bind (wpAny_standAt h1)

theorem wp_append {w : World} {A : Around} {s : Shared} {l : Addr} {o : Obj} {items : Array Value} {n : Nat} {x : Value} {Q : Value → Shared → Prop} {E : Value → Shared → Prop} (ho : s.heap.get? l = some o) (hc : o.cls = .type "list") (hd : o.data = .seq items n)
    (hQ : ∀ h' o', h'.get? l = some o' → o'.cls = .type "list" → o'.dict = o.dict → (∃ n', o'.data = .seq (items.push x) n') → Heap.SameBut l s.heap h' → Q .none { s with heap := h' }) (hsz : items.size ≤ sizeLine) :
    wpAny (model pw w) A (call (.builtin "list.append") [.ref l, x]) Q E s := by
  obtain ⟨n', hd'⟩ := Obj.data_mapSeq hd (·.push x)
  refine wpAny_call_entry slot_list_append (Heap.IsList.typeIs ⟨o, ho, hc, n, hd⟩) entry_list_append ?_ (args_list_append _ _)
  show wpAny _ _ (updateSeq l (·.push x) >>= fun _ => ret .none) _ _ s
  refine wpAny_bind ?_
  refine wpAny_updateSeq ho hd (wpAny_pure ⟨.none, rfl, hQ _ _ (Heap.get?_update_self _ ho (Obj.isFreed_of_seq hd')) ((Obj.cls_mapSeq ..).trans hc) ?_ ⟨n', hd'⟩ (Heap.SameBut.update ..)⟩) (by size_fits)
  obtain ⟨c, d, dt, sl⟩ := o; cases dt <;> rfl

section
variable {B : Bs} {a : Act} {Δ : DE} {C : Cold} {ρ : List Addr} {μ : List MO} {s : Shared} {r : List (Addr × Obj)}

theorem wp_tests {ifs : List Expr} {K : Bool → List MO → Prop} (h : TestK B a Δ μ ifs K) (ok : ActOk B a) (S : St B a Δ C ρ μ s) {Q : Bool → Shared → Prop} {E : Value → Shared → Prop}
    (hQ : ∀ b C' ρ' μ' s', K b μ' → C.le C' → ρ <+: ρ' → St B a Δ C' ρ' μ' s' → Q b s') (hE : FltOk B (sfC B) a C E) : wpAny (model pw B.w) a.A (testsOf ifs a.env) Q E s := by
  unfold testsOf
  match ifs, h with
  | [], h => exact wpAny_tests_nil (hQ _ _ _ _ _ h (.refl _) List.prefix_rfl S)
  | [t], h => exact wpAny_tests_one (h ok C ρ s S Q E hQ hE)

structure LastInv (B : Bs) (a : Act) (elt tg : Expr) (ifs : List Expr) (K : DE → List MO → List D → Prop) (it : Value) (Dd : Addr) (r : List (Addr × Obj)) (C : Cold) (ρ : List Addr) (n : Nat) (s' : Shared) : Prop where
  out : ∃ items Δ' C' ρ' μ' os outs o vs k, n = items.length + 1 ∧ LastK B a elt tg ifs K items Δ' μ' outs ∧ C.le C' ∧ ρ <+: ρ' ∧ St B (a.wit (os ++ ((Dd, o) :: r))) Δ' C' ρ' μ' s' ∧ Yields tg it C' os items ∧
    (o.cls = .type "list" ∧ o.dict = none) ∧ o.data = .seq (List.toArray vs) k ∧ RdAll C' vs outs

/-- the accumulating list grows -/
theorem wp_acc {o : Obj} {vs : List Value} {k : Nat} {outs : List D} {Dd : Addr} {os : List (Addr × Obj)} {v : Value} {d : D} (S : St B (a.wit (os ++ ((Dd, o) :: r))) Δ C ρ μ s) (hc : (o.cls = .type "list" ∧ o.dict = none)) (hd : o.data = .seq vs.toArray k) (hr : RdAll C vs outs) (hv : Rd C v d) (hz : outs.length ≤ 16777216)
    {Q : Value → Shared → Prop} {E : Value → Shared → Prop} (hQ : ∀ o' k' s', St B (a.wit (os ++ ((Dd, o') :: r))) Δ C ρ μ s' → (o'.cls = .type "list" ∧ o'.dict = none) → o'.data = .seq (vs ++ [v]).toArray k' → RdAll C (vs ++ [v]) (outs ++ [d]) → Q .none s') :
    wpAny (model pw B.w) a.A (call (.builtin "list.append") [.ref Dd, v]) Q E s := by
  have ho := (S.its (Dd, o) (List.mem_append_right _ (.head _))).2.2.1
  refine wp_append ho hc.1 hd (fun h' o' ho' hc' hdn ⟨k', hd'⟩ hs => ?_) (by rw [List.size_toArray, hr.length, sizeLine_eq]; exact hz)
  have p1 : (os ++ ((Dd, o) :: r)).Perm ([(Dd, o)] ++ (os ++ r)) := List.perm_middle
  have p2 : ([(Dd, o')] ++ (os ++ r)).Perm (os ++ ((Dd, o') :: r)) := (List.perm_middle (l₁ := os) (a := (Dd, o')) (l₂ := r)).symm
  have S1 := (S.perm p1).advance (os' := [(Dd, o')]) (h' := h') (tk := s.toks) rfl (fun p hp => by rw [List.mem_singleton.mp hp]; exact ho') (fun p hp => by rw [List.mem_singleton.mp hp]; exact .seq hd') fun b o hb e => hs.extBut b o (fun q => hb (by simp [q])) e
  exact hQ o' k' _ (S1.perm p2) ⟨hc', hdn.trans hc.2⟩ (by rw [hd']; congr 1; simp) (hr.append (RdAll.one hv))

theorem noFlt {cls : Value} {E : Value → Shared → Prop} (h : a.fr = none) : FltOk B cls a C E := fun l hl => by rw [h] at hl; cases hl

theorem compLast {e elt0 elt tg iter : Expr} {gens : List Comprehension} {scope : Scope} {pos : Pos} (he : e = .ListComp elt0 gens scope pos) {ifs : List Expr} {k : Nat} {it : Value} {Dd : Addr} {K : DE → List MO → List D → Prop} {R : Result → Shared → Prop}
    (hturn : compTurn e k it (.ref Dd) a.env = lastTurn elt tg iter ifs it (.ref Dd) a.env (again (.compLoop e k it (.ref Dd) a.env)))
    (ok : ActOk B a) (hfr : a.fr = none)
    {items : List D} {os : List (Addr × Obj)} {outs : List D} {o : Obj} {vs : List Value} {n : Nat} (h : LastK B a elt tg ifs K items Δ μ outs) (S : St B (a.wit (os ++ ((Dd, o) :: r))) Δ C ρ μ s) (y : Yields tg it C os items)
    (hc : (o.cls = .type "list" ∧ o.dict = none)) (hd : o.data = .seq vs.toArray n) (hr : RdAll C vs outs)
    (hR : ∀ Δ' C' ρ' μ' outs' o' vs' n' s', K Δ' μ' outs' → C.le C' → ρ <+: ρ' → St B (a.wit ((Dd, o') :: r)) Δ' C' ρ' μ' s' → (o'.cls = .type "list" ∧ o'.dict = none) → o'.data = .seq (List.toArray vs') n' → RdAll C' vs' outs' → R (.ok .next) s') :
    codeAny (model pw B.w) a.A (.compLoop e k it (.ref Dd) a.env) R s := by
  refine codeAny_loop rfl (LastInv B a elt tg ifs K it Dd r C ρ) (fun n s2 hI => ?_) (items.length + 1) ⟨items, Δ, C, ρ, μ, os, outs, o, vs, n, rfl, h, .refl _, List.prefix_rfl, S, y, hc, hd, hr⟩
  obtain ⟨items, Δ2, C2, ρ2, μ2, os, outs, o, vs, k2, rfl, h2, c2, p2, S2, y2, hc2, hd2, hr2⟩ := hI
  have hden : (model pw B.w).den (.compLoop e k it (.ref Dd) a.env) = (compTurn e k it (.ref Dd) a.env).onRaise (fun x => do noteFrame x a.env; theTreesLotGoes x) := by subst he; rfl
  have hund : a.A.under (.compLoop e k it (.ref Dd) a.env) = a.A := by subst he; rfl
  rw [hden, hund]
  show wpAny _ a.A ((compTurn e k it (.ref Dd) a.env).onRaise (fun x => do noteFrame x a.env; theTreesLotGoes x)) _ _ s2
  refine wpAny_noted ?_
  rw [hturn]
  unfold lastTurn
  refine wpAny_bind (wpAny_standAt (wpAny_bind ?_))
  cases items with
  | nil =>
    refine y2 _ _ _ _ _ ok.hh S2.cold S2.osAt fun h' off => wpAny_pure ?_
    exact hR _ _ _ _ _ _ _ _ _ h2 c2 p2 (S2.off (tk := s2.toks) off) hc2 hd2 hr2
  | cons d ds =>
    obtain ⟨b, hb, hbody⟩ := h2
    refine wpAny_mono (y2 _ _ _ (fun rr s3 => match rr with
      | none => False
      | some v => wpAny (model pw B.w) a.A (PySem.assign tg a.env v) (fun _ s4 => wpAny (model pw B.w) a.A (testsOf ifs a.env) (fun okb s5 =>
          if okb then wpAny (model pw B.w) a.A (eval elt a.env) (fun x s6 => wpAny (model pw B.w) a.A (call (.builtin "list.append") [.ref Dd, x]) (fun _ s7 => ∃ m, m < (d :: ds).length + 1 ∧ LastInv B a elt tg ifs K it Dd r C ρ m s7) (notedBy (model pw B.w) a.A a.env fun e s' => R (.error e) s') s6) (notedBy (model pw B.w) a.A a.env fun e s' => R (.error e) s') s5
          else ∃ m, m < (d :: ds).length + 1 ∧ LastInv B a elt tg ifs K it Dd r C ρ m s5) (notedBy (model pw B.w) a.A a.env fun e s' => R (.error e) s') s4) (notedBy (model pw B.w) a.A a.env fun e s' => R (.error e) s') s3)
        (notedBy (model pw B.w) a.A a.env fun e s' => R (.error e) s') ok.hh S2.cold S2.osAt fun v h' tk os' e1 e2 e3 e4 e5 e6 => ?_) (fun rr s3 h3 => ?_) fun _ _ x => x
    · obtain ⟨C3, c3, S3, rv⟩ := S2.item (tk := tk) e1 e2 e3 e4 e5
      refine wp_bindT (a := a.wit (os' ++ ((Dd, o) :: r))) (ok.wit _) S3 hb.wit rv fun s4 S4 => ?_
      refine wp_tests (hbody _) (ok.wit _) S4 (fun okb C4 ρ4 μ4 s5 k4 c4 p4 S5 => ?_) (noFlt hfr)
      cases okb with
      | true =>
        simp only [if_true] at k4 ⊢
        refine k4 (ok.wit _) C4 ρ4 _ S5 _ _ (fun x d' C5 ρ5 μ5 s6 k5 c5 p5 S6 r6 => ?_) (noFlt hfr)
        obtain ⟨ht, hz, k5⟩ := k5
        refine wp_acc S6 hc2 hd2 (hr2.mono (c3.trans (c4.trans c5))) (r6.rd ht) hz fun o' n' s7 S7 hc7 hd7 hr7 => ?_
        exact ⟨ds.length + 1, by simp, ds, _, C5, ρ5, μ5, os', outs ++ [d'], o', vs ++ [x], n', rfl, k5, c2.trans (c3.trans (c4.trans c5)), p2.trans (p4.trans p5), S7, e6.mono (c3.trans (c4.trans c5)), hc7, hd7, hr7⟩
      | false =>
        simp only [Bool.false_eq_true, if_false] at k4 ⊢
        exact ⟨ds.length + 1, by simp, ds, _, C4, ρ4, μ4, os', outs, o, vs, k2, rfl, k4, c2.trans (c3.trans c4), p2.trans p4, S5, e6.mono (c3.trans c4), hc2, hd2, hr2.mono (c3.trans c4)⟩
    · cases rr with
      | none => exact h3.elim
      | some v =>
        refine wpAny_bind (wpAny_mono h3 (fun _ s4 h4 => wpAny_bind (wpAny_mono h4 (fun _ s5 h5 => wpAny_bind (wpAny_mono h5 (fun okb s6 h6 => ?_) fun _ _ x => x)) fun _ _ x => x)) fun _ _ x => x)
        cases okb with
        | true =>
          simp only [if_true] at h6 ⊢
          exact wpAny_bind (wpAny_bind (wpAny_mono h6 (fun x s7 h7 => wpAny_bind (wpAny_mono h7 (fun _ s8 h8 => wpAny_pure (wpAny_pure ⟨rfl, h8⟩)) fun _ _ x => x)) fun _ _ x => x))
        | false =>
          simp only [Bool.false_eq_true, if_false] at h6 ⊢
          exact wpAny_pure ⟨rfl, h6⟩
end
/-! B12 -/
noncomputable def LiveAt (ρ : List Addr) (μ : List MO) (b : Addr) : Prop := ∃ (k : Nat) (m : MO), ρ[k]? = some b ∧ μ[k]? = some m ∧ m.live = true
open Classical in
noncomputable def snapX (C : Cold) (h : Heap) (X : Addr → Prop) : Cold := fun b => if (C b).isSome then C b else if X b then none else (h.get? b).map fun o => (false, o)
section
variable {C C' : Cold} {h h' : Heap} {X : Addr → Prop} {b : Addr} {p : Bool × Obj}
theorem snapX_le : C.le (snapX C h X) := fun b p e => by unfold snapX; rw [e]; simp
theorem snapX_in (x : C.In h) : (snapX C h X).In h := fun b p e => by
  unfold snapX at e
  split at e
  · exact x b p e
  · split at e
    · cases e
    · cases q : h.get? b with
      | none => rw [q] at e; cases e
      | some o => rw [q] at e; cases e; exact ⟨o, q, .rfl _⟩
theorem snapX_of (hb : C b = none) (hX : ¬ X b) {o : Obj} (ho : h.get? b = some o) : snapX C h X b = some (false, o) := by
  unfold snapX; rw [hb, ho]; simp [hX]
theorem snapX_X (hb : C b = none) (hX : X b) : snapX C h X b = none := by unfold snapX; rw [hb]; simp [hX]
end

section
variable {B : Bs} {a : Act} {Δ : DE} {C C₁ : Cold} {ρ ρ₁ : List Addr} {μ μ₁ : List MO} {s s' : Shared} {P : Addr → Prop}

theorem St.backG (S : St B a Δ C ρ μ s) (hP1 : ¬ P a.env.locals) (hP2 : ∀ c v, s.heap.IsCell c v → ¬ P c) (hP3 : ∀ p ∈ a.its, ¬ P p.1) (le : (snapX C s.heap fun b => LiveAt ρ μ b ∨ P b).le C₁) (b' : Base B s') (ci : C₁.In s'.heap)
    (pre : ρ <+: ρ₁) (M₁ : Mu B C₁ ρ₁ μ₁ s'.heap) : C.le (filtC C C₁) ∧ St B a Δ (filtC C C₁) ρ₁ μ₁ s' := by
  have cle : C.le (filtC C C₁) := le_filt (snapX_le.trans le)
  have keep : ∀ b o, C b = none → ¬ (LiveAt ρ μ b ∨ P b) → s.heap.get? b = some o → ∃ o', s'.heap.get? b = some o' ∧ Sim o o' := fun b o h1 h2 h3 => ci _ _ (le _ _ (snapX_of h1 h2 h3))
  have none_ : ∀ b o, C b = none → s.heap.get? b = some o → ¬ (LiveAt ρ μ b ∨ P b) → filtC C C₁ b = none := fun b o h1 h3 h2 => filt_none h1 fun p e => by
    have := le _ _ (snapX_of h1 h2 h3); rw [this] at e; cases e; rfl
  have inC1 : ∀ b o, C b = none → s.heap.get? b = some o → ¬ (LiveAt ρ μ b ∨ P b) → C₁ b = some (false, o) := fun b o h1 h3 h2 => le _ _ (snapX_of h1 h2 h3)
  have nl : ∀ b o, s.heap.get? b = some o → ((∃ es n, o.data = .dict es n) ∨ (∃ v, o.data = .cell v) ∨ ∃ vs, o.data = .fields vs) → ¬ LiveAt ρ μ b := fun b o h1 h2 ⟨k, m, e, f, l⟩ => S.muNe h1 h2 e f l rfl
  obtain ⟨m, hn, hq⟩ := S.ns
  obtain ⟨oL, es, ep, hoL, hdL, hrest⟩ := id hn
  have cellX : ∀ c v, s.heap.IsCell c v → ¬ (LiveAt ρ μ c ∨ P c) := fun c v hc q => by
    obtain ⟨o, ho, hd⟩ := id hc
    rcases q with q | q
    · exact nl c o ho (.inr (.inl ⟨_, hd⟩)) q
    · exact hP2 c v hc q
  have cellAny : ∀ c v, s.heap.IsCell c v → s'.heap.IsCell c v := fun c v hcell => by
    obtain ⟨o, ho, hd⟩ := id hcell
    cases hc : C c with
    | none =>
      obtain ⟨o', h2, _, h3, _⟩ := keep c o hc (cellX c v hcell) ho
      exact ⟨o', h2, h3.trans hd⟩
    | some p =>
      obtain ⟨o1, h1, h2, h3, _⟩ := S.cold c p hc
      rw [ho] at h1; cases h1
      obtain ⟨o', h1, h4, h5, _⟩ := ci _ _ (le _ _ (snapX_le _ _ hc))
      exact ⟨o', h1, by rw [h5, ← h3]; exact hd⟩
  have LX : ¬ (LiveAt ρ μ a.env.locals ∨ P a.env.locals) := fun q => q.elim (nl _ _ hoL (.inl ⟨_, _, hdL⟩)) hP1
  obtain ⟨oL', h1, _, h3, _⟩ := keep _ _ S.nL LX hoL
  exact ⟨cle, {
    base := b'
    cold := ci.mono filt_le
    mu := { len := M₁.len, inj := M₁.inj
            at_ := fun i c o e f => by
              have hat := M₁.at_ i c o e f
              cases o with
              | dead => trivial
              | list ds => obtain ⟨o, vs, n, ho, hc, hd, r⟩ := hat; exact ⟨o, vs, n, ho, hc, hd, filt_rdAll r.1, r.2⟩
              | barr ns => exact hat
            new := fun i c o e f l => ⟨(by
              cases q : filtC C C₁ c with
              | none => rfl
              | some p =>
                have := filt_le _ _ q
                rw [(M₁.new i c o e f l).1] at this
                cases this), (M₁.new i c o e f l).2⟩ }
    nL := none_ _ _ S.nL hoL LX
    bL := S.bL
    nW := fun p hp => by
      obtain ⟨x1, x2, v, hv⟩ := S.nW p hp
      obtain ⟨o, ho, hd⟩ := id hv
      exact ⟨none_ _ _ x1 ho (cellX _ _ hv), x2, v, cellAny _ _ hv⟩
    ns := ⟨m, ⟨oL', es, ep, h1, h3.trans hdL, hrest⟩, fun x d e => by
      obtain ⟨v, hv, hb⟩ := hq x d e
      refine ⟨v, hv.mono cle pre, ?_⟩
      rcases hb with hb | ⟨k1, c, k2, hc⟩
      · exact .inl hb
      · exact .inr ⟨k1, c, k2, cellAny _ _ hc⟩⟩
    outer := fun l e => (S.outer l e).mono cle
    itn := S.itn
    its := fun p hp => by
      obtain ⟨x1, x2, x3, x4, x5, x6⟩ := S.its p hp
      have hX : ¬ (LiveAt ρ μ p.1 ∨ P p.1) := fun q => q.elim (fun ⟨k, m, e, f, l⟩ => x6 k _ m e f l rfl) (hP3 p hp)
      obtain ⟨o', k1, _, _, k2⟩ := keep _ _ x1 hX x3
      refine ⟨none_ _ _ x1 x3 hX, x2, by rw [k1, k2 x4], x4, x5, fun i c o e f l q => ?_⟩
      have := (M₁.new i c o e f l).1
      rw [q, inC1 _ _ x1 x3 hX] at this; cases this }⟩

/-- an object that nobody holds joins the cold ones -/
theorem St.putAny (S : St B a Δ C ρ μ s) {b : Addr} {p : Bool × Obj} (hC : C b = none) (hp : Has s.heap b p) (hL : a.env.locals ≠ b) (hW : ∀ q ∈ a.W, q.2 ≠ b) (hμ : ¬ LiveAt ρ μ b) (hits : ∀ q ∈ a.its, q.1 ≠ b) :
    C.le (C.put b p) ∧ St B a Δ (C.put b p) ρ μ s := by
  have le := Cold.le_put (p := p) hC
  refine ⟨le, {
    base := S.base
    cold := fun c q e => by
      by_cases h : c = b
      · subst h; rw [Cold.put_self] at e; cases e; exact hp
      · rw [Cold.put_ne _ _ h] at e; exact S.cold c q e
    mu := { len := S.mu.len, inj := S.mu.inj, at_ := fun i c o e f => (S.mu.at_ i c o e f).keeps le fun _ h => h
            new := fun i c o e f l => ⟨by rw [Cold.put_ne _ _ (fun (q : c = b) => hμ ⟨i, o, (by rw [← q]; exact e), f, l⟩)]; exact (S.mu.new i c o e f l).1, (S.mu.new i c o e f l).2⟩ }
    nL := by rw [Cold.put_ne _ _ hL]; exact S.nL
    bL := S.bL
    nW := fun q hq => let ⟨x1, x2, v, hv⟩ := S.nW q hq; ⟨by rw [Cold.put_ne _ _ (hW q hq)]; exact x1, x2, v, hv⟩
    ns := let ⟨m, hn, q⟩ := S.ns; ⟨m, hn, fun x d e => let ⟨v, hv, hb⟩ := q x d e; ⟨v, hv.mono le List.prefix_rfl, hb⟩⟩
    outer := fun l e => (S.outer l e).mono le
    itn := S.itn
    its := fun q hq => let ⟨x1, x2, x3⟩ := S.its q hq; ⟨by rw [Cold.put_ne _ _ (hits q hq)]; exact x1, x2, x3⟩ }⟩

/-- an object that was kept and not read is let go; it may change -/
theorem St.unput {b : Addr} {o : Obj} {C0 : Cold} (S : St B a Δ (C0.put b (false, o)) ρ μ s) (h0 : C0 b = none) (hB : B.s₀.heap.get? b = none) (hd : ∃ es n, o.data = .dict es n) (hou : ∀ l, a.fr = some l → OuterOk B C0 l) {h' : Heap} {tk : Nat} (hs : Heap.SameBut b s.heap h') :
    St B a Δ C0 ρ μ { s with heap := h', toks := tk } := by
  have put := Cold.put_self C0 b (false, o)
  have none0 : ∀ c, (C0.put b (false, o)) c = none → C0 c = none ∧ c ≠ b := fun c e => by
    by_cases h : c = b
    · subst h; rw [put] at e; cases e
    · rw [Cold.put_ne _ _ h] at e; exact ⟨e, h⟩
  have up : ∀ x p, (C0.put b (false, o)) x = some (true, p) → C0 x = some (true, p) := fun x p e => by
    by_cases h : x = b
    · subst h; rw [put] at e; cases e
    · rw [Cold.put_ne _ _ h] at e; exact e
  have vup : ∀ v d, VRd (C0.put b (false, o)) ρ v d → VRd C0 ρ v d := fun v d h => by
    cases d with
    | obj k => exact h
    | _ => exact Rd.up up h
  obtain ⟨ob, hob, q1, q2, _⟩ := S.cold _ _ put
  have nocell : ∀ c v, s.heap.IsCell c v → c ≠ b := fun c v ⟨oc, hoc, hdc⟩ e => by
    subst e; rw [hob] at hoc; cases hoc; obtain ⟨es, n, hd⟩ := hd; rw [q2] at hdc; rw [hd] at hdc; cases hdc
  have cell : ∀ c v, s.heap.IsCell c v → h'.IsCell c v := fun c v hc => hc.sameBut hs (nocell c v hc)
  exact {
    base := S.base.to fun c o e => (hs.2 c fun q => by rw [q, hB] at e; cases e).trans (S.base.keep c o e)
    cold := fun c p e => by
      have hne : c ≠ b := fun q => by rw [q, h0] at e; cases e
      obtain ⟨o, ho, q⟩ := S.cold c p (by rw [Cold.put_ne _ _ hne]; exact e)
      exact ⟨o, (hs.2 c hne).trans ho, q⟩
    mu := { len := S.mu.len, inj := S.mu.inj
            at_ := fun i c m e f => by
              have hat := S.mu.at_ i c m e f
              cases m with
              | dead => trivial
              | list ds =>
                have hne := (none0 _ (S.mu.new i c _ e f rfl).1).2
                obtain ⟨o, vs, n, ho, hc, hd, r⟩ := hat; exact ⟨o, vs, n, (hs.2 c hne).trans ho, hc, hd, RdAll.up up r.1, r.2⟩
              | barr ns =>
                have hne := (none0 _ (S.mu.new i c _ e f rfl).1).2
                obtain ⟨o, y, ho, r⟩ := hat; exact ⟨o, y, (hs.2 c hne).trans ho, r⟩
            new := fun i c m e f l => ⟨(none0 _ (S.mu.new i c m e f l).1).1, (S.mu.new i c m e f l).2⟩ }
    nL := (none0 _ S.nL).1
    bL := S.bL
    nW := fun p hp => let ⟨x1, x2, v, hv⟩ := S.nW p hp; ⟨(none0 _ x1).1, x2, v, cell _ _ hv⟩
    ns := let ⟨m, hn, q⟩ := S.ns; ⟨m, hn.sameBut hs (none0 _ S.nL).2, fun x d e => let ⟨v, hv, hb⟩ := q x d e; ⟨v, vup v d hv, hb.elim .inl fun ⟨k1, c, k2, hc⟩ => .inr ⟨k1, c, k2, cell _ _ hc⟩⟩⟩
    outer := hou
    itn := S.itn
    its := fun p hp => let ⟨x1, x2, x3, x4⟩ := S.its p hp; ⟨(none0 _ x1).1, x2, (hs.2 _ (none0 _ x1).2).trans x3, x4⟩ }
end
/-! B13 -/
noncomputable def compAct (a : Act) (scope : Scope) (cl : List (Str × Addr)) (L : Addr) : Act := { A := a.A, env := compEnvC scope cl L a.env, W := [], fr := none, n := a.n }

structure CompDone (B : Bs) (a : Act) (Δ : DE) (C1 : Cold) (ρ1 : List Addr) (K : List D → List MO → Prop) (L D0 : Addr) (s' : Shared) : Prop where
  out : ∃ C' ρ' μ' outs oL, K outs μ' ∧ C1.le C' ∧ ρ1 <+: ρ' ∧ C' L = none ∧ B.s₀.heap.get? L = none ∧ (∃ es n, oL.data = .dict es n) ∧ (∃ m, s'.heap.Ns L m) ∧ s'.heap.get? L = some oL ∧
    (∀ l, a.fr = some l → OuterOk B C' l) ∧ Rd C' (.ref D0) (.list outs) ∧ St B a Δ (C'.put L (false, oL)) ρ' μ' s'

section
variable {B : Bs} {a : Act} {Δ Δin : DE} {C1 : Cold} {ρ1 : List Addr} {μ1 : List MO} {s1 : Shared} {os : List (Addr × Obj)} {K : List D → List MO → Prop} {it : Value} {scope : Scope} {cl : List (Str × Addr)}

theorem ActOk.comp (ok : ActOk B a) (hkind : scope.kind = .function) (hcl : ∀ x c, cl.lookup x = some c → a.env.cells.lookup x = some c) (L : Addr) : ActOk B (compAct a scope cl L) where
  st := ok.st
  hh := ok.hh
  room := ok.room
  kind := hkind
  gl := ok.gl
  bu := ok.bu
  apart := fun x y c h1 h2 => ok.apart x y c (hcl _ _ h1) (hcl _ _ h2)
  W := fun x c h => nomatch h
  fr := fun l e => nomatch e

theorem comp_run {e elt0 : Expr} {gens : List Comprehension} {pos : Pos} (he : e = .ListComp elt0 gens scope pos) (ha : ((clausesOf e)[0]?).elim false (·.is_async != 0) = false)
    (hcell : ∀ y ∈ scope.names, y.2 ≠ .cell) (hkind : scope.kind = .function) (hcl : ∀ x c, cl.lookup x = some c → a.env.cells.lookup x = some c) (ok : ActOk B a)
    (S1 : St B (a.wit (os ++ a.its)) Δ C1 ρ1 μ1 s1) (zs : SelfIt it C1 os)
    (hΔ : ∀ x d, Δin.lookup x = some d → Δ.lookup x = some d ∧ a.env.kindOf x = some .cell ∧ (relabel scope a.env).names.lookup x = some .cell ∧ cl.lookup x = a.env.cells.lookup x)
    (loop : ∀ L D0 C2 s4 o, (o.cls = .type "list" ∧ o.dict = none) → o.data = .seq (List.toArray []) 0 → C1.le C2 → St B ((compAct a scope cl L).wit (os ++ [(D0, o)])) Δin C2 ρ1 μ1 s4 → ∀ R : Result → Shared → Prop,
      (∀ Δ' C' ρ' μ' outs o' vs' n' s', K outs μ' → C2.le C' → ρ1 <+: ρ' → St B ((compAct a scope cl L).wit [(D0, o')]) Δ' C' ρ' μ' s' → (o'.cls = .type "list" ∧ o'.dict = none) → o'.data = .seq (List.toArray vs') n' → RdAll C' vs' outs → R (.ok .next) s') →
      codeAny (model pw B.w) a.A (.compLoop e 0 it (.ref D0) (compEnvC scope cl L a.env)) R s4)
    {RR : Value → Addr → Result → Shared → Prop} {E : Value → Shared → Prop} (fin : ∀ L D0 s', CompDone B a Δ C1 ρ1 K L D0 s' → RR (.ref D0) L (.ok .next) s') :
    wpAny (model pw B.w) a.A (newList []) (fun acc s₃ => wpAny (model pw B.w) a.A (newFunctionEnv scope a.env.globals cl [] a.env.qual none .none (some a.env)) (fun cenv s₄ =>
      codeAny (model pw B.w) a.A (.compStart e 0 it acc { cenv with scope := relabel scope a.env }) (RR acc cenv.locals) s₄) E s₃) E s1 := by
  refine wpAny_newObj_type (wpAny_newFunctionEnv hcell (by intro y hy; simp at hy) (fun h₁ hns₁ hsb₁ => ?_) hkind)
  dsimp only at hns₁ hsb₁ ⊢
  generalize hH2 : s1.heap.push { cls := .type "list", dict := none, data := .seq ([] : List Value).toArray } = H2 at hns₁ hsb₁ ⊢
  have hCs : H2.objs.size = s1.heap.objs.size + 1 := by rw [← hH2, Heap.size_push]
  generalize hLL : H2.objs.size = L at hns₁ hsb₁ ⊢ hCs
  have hDC : s1.heap.objs.size ≠ L := by rw [hCs]; exact Nat.ne_of_lt (Nat.lt_succ_self _)
  have below : ∀ b, b < s1.heap.objs.size → b ≠ L ∧ b ≠ s1.heap.objs.size := fun b hb => ⟨by rw [hCs]; exact Nat.ne_of_lt (Nat.lt_succ_of_lt hb), Nat.ne_of_lt hb⟩
  have old : ∀ b o, s1.heap.get? b = some o → h₁.get? b = some o := fun b o e => hsb₁.extBut b o (below b (Heap.lt_size e)).1 (Heap.get?_push_of_some _ (hH2 ▸ Heap.get?_push_of_some _ e))
  have hacc : h₁.get? s1.heap.objs.size = some { cls := .type "list", dict := none, data := .seq ([] : List Value).toArray } := hsb₁.extBut _ _ hDC (Heap.get?_push_of_some _ (hH2 ▸ Heap.get?_push_size _ rfl))
  generalize hD : s1.heap.objs.size = D0 at hacc hDC below ⊢
  have fL := S1.fresh (b := L) (by rw [hCs]; exact Nat.le_succ _)
  have fD := S1.fresh (b := D0) (by rw [hD]; exact Nat.le_refl _)
  generalize htk : s1.toks + ([] : List (Str × Value)).length = tk
  have S2 : St B (a.wit (os ++ a.its)) Δ C1 ρ1 μ1 { s1 with heap := h₁, toks := tk } := S1.keep0 old
  generalize hs4 : ({ s1 with heap := h₁, toks := tk } : Shared) = s4 at S2
  have hh4 : s4.heap = h₁ := by rw [← hs4]
  have lt1 : ∀ p ∈ os ++ a.its, p.1 < D0 := fun p hp => hD ▸ Heap.lt_size (S1.its p hp).2.2.1
  let P : Addr → Prop := fun b => b = L ∨ b = D0 ∨ b ∈ os.map (·.1)
  have S3 : St B a Δ C1 ρ1 μ1 s4 := S2.drop
  obtain ⟨mm, hnm, hq⟩ := S3.ns
  obtain ⟨oLL, ess, epp, hoLL, hdLL, _⟩ := id hnm
  have osDict : ∀ b o, s4.heap.get? b = some o → ((∃ es n, o.data = .dict es n) ∨ ∃ v, o.data = .cell v) → b ∉ os.map (·.1) := fun b o ho hd hb => by
    obtain ⟨p, hp, rfl⟩ := List.mem_map.mp hb
    obtain ⟨_, _, x3, x4, x5, _⟩ := S2.its p (List.mem_append_left _ hp)
    rw [ho] at x3; cases x3
    rcases hd with ⟨es, n, h⟩ | ⟨v, h⟩
    · exact x4 _ _ h
    · exact x5 _ h
  have hP1 : ¬ P a.env.locals := by
    have hlt := S1.ltL
    rintro (q | q | q)
    · exact (below _ (hD ▸ hlt)).1 q
    · exact (below _ (hD ▸ hlt)).2 q
    · exact osDict _ _ hoLL (.inl ⟨_, _, hdLL⟩) q
  have hP2 : ∀ c v, s4.heap.IsCell c v → ¬ P c := by
    rintro c v ⟨o, ho, hd⟩ (q | q | q)
    · subst q
      obtain ⟨o', es, ep, ho', hd', _⟩ := hns₁
      rw [← hh4, ho] at ho'; cases ho'; rw [hd] at hd'; cases hd'
    · subst q
      rw [hh4, hacc] at ho; cases ho; cases hd
    · exact osDict _ _ ho (.inr ⟨_, hd⟩) q
  have hP3 : ∀ p ∈ a.its, ¬ P p.1 := by
    rintro p hp (q | q | q)
    · exact (below _ (lt1 p (List.mem_append_right _ hp))).1 q
    · exact (below _ (lt1 p (List.mem_append_right _ hp))).2 q
    · have := S1.itn
      rw [List.map_append, List.nodup_append] at this
      exact this.2.2 _ q _ (List.mem_map.mpr ⟨p, hp, rfl⟩) rfl
  have leS := snapX_le (C := C1) (h := s4.heap) (X := fun b => LiveAt ρ1 μ1 b ∨ P b)
  have inner : St B ((compAct a scope cl L).wit (os ++ [(D0, { cls := .type "list", dict := none, data := .seq ([] : List Value).toArray })])) Δin (snapX C1 s4.heap fun b => LiveAt ρ1 μ1 b ∨ P b) ρ1 μ1 s4 := {
    base := S3.base
    cold := snapX_in S3.cold
    mu := { len := S3.mu.len, inj := S3.mu.inj, at_ := fun i b o e f => (S3.mu.at_ i b o e f).keeps leS fun _ h => h
            new := fun i b o e f l => ⟨snapX_X (S3.mu.new i b o e f l).1 (.inl ⟨i, o, e, f, l⟩), (S3.mu.new i b o e f l).2⟩ }
    nL := snapX_X fL.1 (.inr (.inl rfl))
    bL := fL.2
    nW := fun p hp => nomatch hp
    ns := ⟨_, hh4 ▸ hns₁, fun x d e => by
      obtain ⟨e1, k1, k2, k3⟩ := hΔ x d e
      obtain ⟨v, hv, hb⟩ := hq x d e1
      refine ⟨v, hv.mono leS List.prefix_rfl, ?_⟩
      rcases hb with ⟨k, _⟩ | ⟨_, c, hc, hcell⟩
      · rw [k1] at k; cases k
      · exact .inr ⟨k2, c, by show cl.lookup x = some c; rw [k3, hc], hcell⟩⟩
    outer := fun l e => nomatch e
    itn := by
      show ((os ++ [(D0, ({ cls := .type "list", dict := none, data := .seq ([] : List Value).toArray } : Obj))]).map (·.1)).Nodup
      rw [List.map_append, List.nodup_append]
      have := S1.itn
      rw [List.map_append, List.nodup_append] at this
      refine ⟨this.1, by simp, fun b hb c hc q => ?_⟩
      simp at hc
      subst hc; subst q
      obtain ⟨p, hp, e⟩ := List.mem_map.mp hb
      exact (below _ (lt1 p (List.mem_append_left _ hp))).2 e
    its := fun p hp => by
      rcases List.mem_append.mp hp with hp | hp
      · obtain ⟨x1, x2, x3, x4, x5, x6⟩ := S2.its p (List.mem_append_left _ hp)
        exact ⟨snapX_X x1 (.inr (.inr (.inr (List.mem_map.mpr ⟨p, hp, rfl⟩)))), x2, x3, x4, x5, x6⟩
      · rw [List.mem_singleton.mp hp]
        refine ⟨snapX_X fD.1 (.inr (.inr (.inl rfl))), fD.2, hh4 ▸ hacc, (fun _ _ q => by cases q), (fun _ q => by cases q), fun i b o e f l q => ?_⟩
        have := S1.mu.lt e f l
        rw [hD] at this
        exact (below _ this).2 q }
  refine compStart_any he ha ?_ (fun E => zs _ _ _ _ _ (hs4 ▸ S3.cold) (fun p hp => hs4 ▸ (S2.its p (List.mem_append_left _ hp)).2.2.1) ⟨rfl, rfl⟩)
  subst hs4
  refine loop L D0 _ _ _ ⟨rfl, rfl⟩ rfl leS inner _ fun Δ' C' ρ' μ' outs o' vs' n' s' hK le pre Sf hc' hd' hr' => ?_
  refine fin L D0 s' ?_
  obtain ⟨cle, So⟩ := S3.backG (P := P) hP1 hP2 hP3 le Sf.base Sf.cold pre Sf.mu
  obtain ⟨xD1, xD2, xD3, xD4, xD5, xD6⟩ := Sf.its (D0, o') (.head _)
  have cDf : filtC C1 C' D0 = none := by
    cases q : filtC C1 C' D0 with
    | none => rfl
    | some p => have := filt_le _ _ q; rw [xD1] at this; cases this
  obtain ⟨m2, hn2⟩ := Sf.ns
  obtain ⟨oL, esL, epL, hoL, hdL, _⟩ := id hn2.1
  obtain ⟨mo, hno, _⟩ := So.ns
  obtain ⟨oo, eso, epo, hoo, hdo, _⟩ := id hno
  have neLD : ∀ b o, s'.heap.get? b = some o → ((∃ es n, o.data = .dict es n) ∨ ∃ v, o.data = .cell v) → b ≠ D0 := fun b o ho hd q => by
    subst q; rw [ho] at xD3; cases xD3
    rcases hd with ⟨es, n, h⟩ | ⟨v, h⟩
    · rw [hd'] at h; cases h
    · rw [hd'] at h; cases h
  obtain ⟨leD, SD⟩ := So.putAny (b := D0) (p := (true, o')) cDf ⟨o', xD3, .rfl _⟩ (neLD _ _ hoo (.inl ⟨_, _, hdo⟩)) (fun q hq => by obtain ⟨_, _, v, o, ho, hd⟩ := So.nW q hq; exact neLD _ _ ho (.inr ⟨_, hd⟩))
    (fun ⟨k, m, e, f, l⟩ => xD6 k _ m e f l rfl) (fun q hq e => hP3 q hq (.inr (.inl e)))
  have cLf : (filtC C1 C').put D0 (true, o') L = none := by
    rw [Cold.put_ne _ _ (Ne.symm hDC)]
    cases q : filtC C1 C' L with
    | none => rfl
    | some p => have := filt_le _ _ q; have e := Sf.nL; rw [show (compAct a scope cl L).env.locals = L from rfl] at e; rw [e] at this; cases this
  obtain ⟨leL, SL⟩ := SD.putAny (b := L) (p := (false, oL)) cLf ⟨oL, hoL, .rfl _⟩ (fun q => hP1 (.inl q)) (fun q hq e => by
      obtain ⟨_, _, v, hv⟩ := S3.nW q hq
      exact hP2 _ _ hv (.inl e)) (fun ⟨k, m, e, f, l⟩ => Sf.muNe hoL (.inl ⟨_, _, hdL⟩) e f l rfl) (fun q hq e => hP3 q hq (.inl e))
  have rD : Rd ((filtC C1 C').put D0 (true, o')) (.ref D0) (.list outs) := .list (Cold.put_self _ _ _) hc'.1 hc'.2 hd' ((filt_rdAll hr').mono leD)
  exact ⟨_, ρ', μ', outs, oL, hK, cle.trans leD, pre, cLf, fL.2, ⟨_, _, hdL⟩, ⟨m2, hn2.1⟩, hoL, fun l e => ((S3.outer l e).mono cle).mono leD, rD, SL⟩
end
/-! B14 -/
noncomputable def CapOk (a : Act) (scope : Scope) (cl : List (Str × Addr)) (Δ : DE) : DE → Prop
  | [] => True
  | (x, d) :: r => (Δ.lookup x = some d ∧ a.env.kindOf x = some .cell ∧ (relabel scope a.env).names.lookup x = some .cell ∧ cl.lookup x = a.env.cells.lookup x) ∧ CapOk a scope cl Δ r
theorem CapOk.get {a : Act} {scope : Scope} {cl : List (Str × Addr)} {Δ : DE} : ∀ {Δin : DE}, CapOk a scope cl Δ Δin → ∀ x d, Δin.lookup x = some d → Δ.lookup x = some d ∧ a.env.kindOf x = some .cell ∧ (relabel scope a.env).names.lookup x = some .cell ∧ cl.lookup x = a.env.cells.lookup x
  | [], _, x, d, e => by cases e
  | (y, d') :: r, ⟨h, t⟩, x, d, e => by
    rw [lookup_cons] at e
    by_cases hx : x = y
    · rw [if_pos hx] at e; cases e; subst hx; exact h
    · rw [if_neg hx] at e; exact CapOk.get t x d e
noncomputable def ClOk (a : Act) : List (Str × Addr) → Prop
  | [] => True
  | (x, c) :: r => a.env.cells.lookup x = some c ∧ ClOk a r
theorem ClOk.get {a : Act} : ∀ {cl : List (Str × Addr)}, ClOk a cl → ∀ x c, cl.lookup x = some c → a.env.cells.lookup x = some c
  | [], _, x, d, e => by cases e
  | (y, d') :: r, ⟨h, t⟩, x, d, e => by
    rw [List.lookup_cons] at e
    by_cases hx : x = y
    · subst hx; simp at e; subst e; exact h
    · rw [beq_false_of_ne hx] at e; exact ClOk.get t x d e
noncomputable def scopeOk (scope : Scope) : Bool := scope.names.all (fun y => y.2 != .cell) && scope.kind == .function && scope.names.all fun y => y.2 != .local || scope.names.lookup y.1 == some .local
theorem scopeOk.get {scope : Scope} (h : scopeOk scope = true) : (∀ y ∈ scope.names, y.2 ≠ .cell) ∧ scope.kind = .function ∧ ∀ y ∈ scope.names, y.2 = .local → scope.names.lookup y.1 = some .local := by
  simp only [scopeOk, Bool.and_eq_true, List.all_eq_true, beq_iff_eq, bne_iff_ne, Bool.or_eq_true] at h
  exact ⟨h.1.1, h.1.2, fun y hy e => (h.2 y hy).resolve_left fun q => q e⟩

/-- the turns of the first clause of two -/
noncomputable def TwoK (B : Bs) (a : Act) (elt t1 t2 i2 : Expr) (ifs : List Expr) (K : DE → List MO → List D → Prop) : List D → DE → List MO → List D → Prop
  | [], Δ, μ, outs => K Δ μ outs
  | d :: ds, Δ, μ, outs => ∃ b, BindT a t1 d b ∧ ∀ r, EvIter B (a.wit r) (b ++ Δ) μ t2 i2 fun items2 μ1 => LastK B a elt t2 ifs (fun Δ2 μ2 outs2 => TwoK B a elt t1 t2 i2 ifs K ds Δ2 μ2 outs2) items2 (b ++ Δ) μ1 outs

section
variable {B : Bs} {a : Act} {Δ Δin : DE} {μ : List MO} {K : D → List MO → Prop} {Kn : DE → List MO → Prop} {Kr : D → List MO → Prop} {scope : Scope} {pos : Pos}

structure TwoInv (B : Bs) (a : Act) (elt t1 t2 i2 : Expr) (ifs : List Expr) (K : DE → List MO → List D → Prop) (it : Value) (Dd : Addr) (C : Cold) (ρ : List Addr) (n : Nat) (s' : Shared) : Prop where
  out : ∃ items Δ' C' ρ' μ' os outs o vs k, n = items.length + 1 ∧ TwoK B a elt t1 t2 i2 ifs K items Δ' μ' outs ∧ C.le C' ∧ ρ <+: ρ' ∧ St B (a.wit (os ++ [(Dd, o)])) Δ' C' ρ' μ' s' ∧ Yields t1 it C' os items ∧
    (o.cls = .type "list" ∧ o.dict = none) ∧ o.data = .seq (List.toArray vs) k ∧ RdAll C' vs outs

theorem LastK.wit {elt tg : Expr} {ifs : List Expr} {K : DE → List MO → List D → Prop} {r} : ∀ {items : List D} {Δ : DE} {μ : List MO} {outs : List D}, LastK B a elt tg ifs K items Δ μ outs → LastK B (a.wit r) elt tg ifs K items Δ μ outs
  | [], _, _, _, h => h
  | d :: ds, Δ, μ, outs, ⟨b, hb, h⟩ => ⟨b, hb.wit, fun r' => by
      have := h r'
      revert this
      match ifs with
      | [] => exact fun q ok C ρ s S Q E hQ hE => q ok C ρ s S Q E (fun v d C' ρ' μ' s' k => hQ v d C' ρ' μ' s' ⟨k.1, k.2.1, LastK.wit k.2.2⟩) hE
      | [t] => exact fun q ok C ρ s S Q E hQ hE => q ok C ρ s S Q E (fun okb C' ρ' μ' s' k => hQ okb C' ρ' μ' s' (by
          cases okb with
          | true => exact fun ok C ρ s S Q E hQ hE => k ok C ρ s S Q E (fun v d C' ρ' μ' s' k => hQ v d C' ρ' μ' s' ⟨k.1, k.2.1, LastK.wit k.2.2⟩) hE
          | false => exact LastK.wit k)) hE
      | _ :: _ :: _ => exact fun q => q⟩

theorem compTwo {elt tg iter t1 i1 : Expr} {ifs : List Expr} {it : Value} {Dd : Addr} {K : DE → List MO → List D → Prop} {R : Result → Shared → Prop} {C : Cold} {ρ : List Addr} {s : Shared}
    (ok : ActOk B a) (hfr : a.fr = none) (hf : ∀ x, foldedSetIterable iter a.env x = pure x)
    {items : List D} {os : List (Addr × Obj)} {outs : List D} {o : Obj} {vs : List Value} {n : Nat} (h : TwoK B a elt t1 tg iter ifs K items Δ μ outs) (S : St B (a.wit (os ++ [(Dd, o)])) Δ C ρ μ s) (y : Yields t1 it C os items)
    (hc : (o.cls = .type "list" ∧ o.dict = none)) (hd : o.data = .seq vs.toArray n) (hr : RdAll C vs outs)
    (hR : ∀ Δ' C' ρ' μ' outs' o' vs' n' s', K Δ' μ' outs' → C.le C' → ρ <+: ρ' → St B (a.wit [(Dd, o')]) Δ' C' ρ' μ' s' → (o'.cls = .type "list" ∧ o'.dict = none) → o'.data = .seq (List.toArray vs') n' → RdAll C' vs' outs' → R (.ok .next) s') :
    codeAny (model pw B.w) a.A (.compLoop (.ListComp elt [⟨t1, i1, [], 0⟩, ⟨tg, iter, ifs, 0⟩] scope pos) 0 it (.ref Dd) a.env) R s := by
  refine codeAny_loop rfl (TwoInv B a elt t1 tg iter ifs K it Dd C ρ) (fun n s2 hI => ?_) (items.length + 1) ⟨items, Δ, C, ρ, μ, os, outs, o, vs, n, rfl, h, .refl _, List.prefix_rfl, S, y, hc, hd, hr⟩
  obtain ⟨items, Δ2, C2, ρ2, μ2, os, outs, o, vs, k2, rfl, h2, c2, p2, S2, y2, hc2, hd2, hr2⟩ := hI
  show wpAny _ a.A ((compTurn (.ListComp elt [⟨t1, i1, [], 0⟩, ⟨tg, iter, ifs, 0⟩] scope pos) 0 it (.ref Dd) a.env).onRaise (fun x => do noteFrame x a.env; theTreesLotGoes x)) _ _ s2
  refine wpAny_noted ?_
  rw [turn_first2]
  refine wpAny_bind (wpAny_standAt (wpAny_bind ?_))
  cases items with
  | nil =>
    refine y2 _ _ _ _ _ ok.hh S2.cold S2.osAt fun h' off => wpAny_pure ?_
    exact hR _ _ _ _ _ _ _ _ _ h2 c2 p2 (S2.off (tk := s2.toks) off) hc2 hd2 hr2
  | cons d ds =>
    obtain ⟨b, hb, hbody⟩ := h2
    generalize hE : (notedBy (model pw B.w) a.A a.env fun e s' => R (.error e) s') = E
    refine wpAny_mono (y2 _ _ _ (fun rr s3 => match rr with
      | none => False
      | some v => wpAny (model pw B.w) a.A (PySem.assign t1 a.env v) (fun _ s4 => wpAny (model pw B.w) a.A (eval iter a.env) (fun x s5 => wpAny (model pw B.w) a.A (pyIter x) (fun it2 s6 =>
          codeAny (model pw B.w) a.A (.compStart (.ListComp elt [⟨t1, i1, [], 0⟩, ⟨tg, iter, ifs, 0⟩] scope pos) 1 it2 (.ref Dd) a.env) (fun r s7 => match r with
            | .ok f => ∃ m, m < (d :: ds).length + 1 ∧ TwoInv B a elt t1 tg iter ifs K it Dd C ρ m s7
            | .error e => cameBackBy (model pw B.w) a.A a.env E e s7) s6) E s5) E s4) E s3)
        E ok.hh S2.cold S2.osAt fun v h' tk os' e1 e2 e3 e4 e5 e6 => ?_) (fun rr s3 h3 => ?_) fun _ _ x => x
    · obtain ⟨C3, c3, S3, rv⟩ := S2.item (tk := tk) e1 e2 e3 e4 e5
      refine wp_bindT (a := a.wit (os' ++ [(Dd, o)])) (ok.wit _) S3 hb.wit rv fun s4 S4 => ?_
      refine hbody _ (ok.wit _) C3 ρ2 _ S4 _ _ (fun it2 os2 items2 C5 ρ5 μ5 s5 k5 c5 p5 S5 y5 z5 => ?_) (noFlt hfr)
      have pm : (os2 ++ (os' ++ [(Dd, o)])).Perm (os2 ++ ((Dd, o) :: os')) := List.Perm.append_left _ (by simpa using List.perm_append_comm (l₁ := os') (l₂ := [(Dd, o)]))
      have S6 := S5.perm pm
      refine compStart_any rfl rfl ?_ (fun E => z5 _ _ _ _ _ S5.cold S5.osAt ⟨rfl, rfl⟩)
      refine compLast (a := a) (r := os') rfl (turn_last2 ..) ok hfr k5 S6 y5 hc2 hd2 (hr2.mono (c3.trans c5)) fun Δ' C' ρ' μ' outs' o' vs' n' s' k c p S' hc' hd' hr' => ?_
      have pm2 : ((Dd, o') :: os').Perm (os' ++ [(Dd, o')]) := by simpa using List.perm_append_comm (l₁ := [(Dd, o')]) (l₂ := os')
      exact ⟨ds.length + 1, by simp, ds, Δ', C', ρ', μ', os', outs', o', vs', n', rfl, k, c2.trans (c3.trans (c5.trans c)), p2.trans (p5.trans p), S'.perm pm2, e6.mono (c3.trans (c5.trans c)), hc', hd', hr'⟩
    · cases rr with
      | none => exact h3.elim
      | some v =>
        refine wpAny_bind (wpAny_mono h3 (fun _ s4 h4 => wpAny_bind (wpAny_mono h4 (fun _ s5 h5 => wpAny_bind (wpAny_mono h5 (fun x s6 h6 => ?_) fun _ _ x => x)) fun _ _ x => x)) fun _ _ x => x)
        refine wpAny_bind (wpAny_standAt (wpAny_bind (wpAny_of_eq (hf x) (wpAny_bind (wpAny_holding (wpAny_mono h6 (fun it2 s7 h7 => wpAny_bind (wpAny_mono (wpAny_runOwn (h := none) (Q := fun f s8 => ∃ m, m < (d :: ds).length + 1 ∧ TwoInv B a elt t1 tg iter ifs K it Dd C ρ m s8) (codeAny_mono h7 fun r s8 h8 => ?_)) (fun f s8 h8 => ?_) fun _ _ x => x)) fun _ _ x => x))))))
        · cases r <;> exact h8
        · exact wpAny_pure ⟨rfl, h8⟩

theorem Ev.comp1 {elt tg iter : Expr} {ifs : List Expr} (cl : List (Str × Addr)) (Δin : DE)
    (h : EvIter B a Δ μ tg iter fun items μ1 => ∀ L, LastK B (compAct a scope cl L) elt tg ifs (fun _ μ2 outs => K (.list outs) μ2) items Δin μ1 [])
    (hclos : closureFor scope a.env = pure cl) (hcap : CapOk a scope cl Δ Δin) (hco : ClOk a cl) (hsc : scopeOk scope = true) (hs : ∀ x, foldedSetIterable iter a.env x = pure x := by intro _; rfl) :
    Ev B a Δ μ (.ListComp elt [⟨tg, iter, ifs, 0⟩] scope pos) K := fun ok C ρ s S Q E hQ hE => by
  obtain ⟨hcell, hkind, hnames⟩ := scopeOk.get hsc
  rw [eval_ListComp]
  refine wpAny_comprehension_free (use := none) rfl hs hclos hkind hnames (h ok C ρ s S _ E (fun it os items C1 ρ1 μ1 s1 k1 c1 p1 S1 y1 z1 => ?_) hE)
  refine comp_run (K := fun outs μ2 => K (.list outs) μ2) (RR := fun acc C => compPost (model pw B.w) a.A E none Q acc C) rfl rfl hcell hkind hco.get ok S1 z1 hcap.get (fun L D0 C2 s4 o hc hd le Sx R hR => ?_) fun L D0 s' hdone => ?_
  · exact compLast (a := compAct a scope cl L) (r := []) rfl (turn_last1 ..) (ok.comp hkind hco.get L) rfl (k1 L) Sx (y1.mono le) hc hd .nil hR
  · obtain ⟨C', ρ', μ', outs, oL, hK, le, pre, cL, bL, hdL, hns, hoL, hou, hrd, Sf⟩ := hdone
    obtain ⟨m, hn⟩ := hns
    refine ⟨m, hn, fun h' hsb => ?_⟩
    exact hQ _ _ _ _ _ _ hK (c1.trans le) (p1.trans pre) (Sf.unput (tk := s'.toks) cL bL hdL hou hsb) (.of hrd)
theorem Ev.comp2 {elt t1 i1 tg iter : Expr} {ifs : List Expr} (cl : List (Str × Addr)) (Δin : DE)
    (h : EvIter B a Δ μ t1 i1 fun items μ1 => ∀ L, TwoK B (compAct a scope cl L) elt t1 tg iter ifs (fun _ μ2 outs => K (.list outs) μ2) items Δin μ1 [])
    (hclos : closureFor scope a.env = pure cl) (hcap : CapOk a scope cl Δ Δin) (hco : ClOk a cl) (hsc : scopeOk scope = true) (hs : ∀ x, foldedSetIterable i1 a.env x = pure x := by intro _; rfl)
    (hs2 : ∀ env x, foldedSetIterable iter env x = pure x := by intro _ _; rfl) :
    Ev B a Δ μ (.ListComp elt [⟨t1, i1, [], 0⟩, ⟨tg, iter, ifs, 0⟩] scope pos) K := fun ok C ρ s S Q E hQ hE => by
  obtain ⟨hcell, hkind, hnames⟩ := scopeOk.get hsc
  rw [eval_ListComp]
  refine wpAny_comprehension_free (use := none) rfl hs hclos hkind hnames (h ok C ρ s S _ E (fun it os items C1 ρ1 μ1 s1 k1 c1 p1 S1 y1 z1 => ?_) hE)
  refine comp_run (K := fun outs μ2 => K (.list outs) μ2) (RR := fun acc C => compPost (model pw B.w) a.A E none Q acc C) rfl rfl hcell hkind hco.get ok S1 z1 hcap.get (fun L D0 C2 s4 o hc hd le Sx R hR => ?_) fun L D0 s' hdone => ?_
  · exact compTwo (a := compAct a scope cl L) (ok.comp hkind hco.get L) rfl (hs2 _) (k1 L) Sx (y1.mono le) hc hd .nil hR
  · obtain ⟨C', ρ', μ', outs, oL, hK, le, pre, cL, bL, hdL, hns, hoL, hou, hrd, Sf⟩ := hdone
    obtain ⟨m, hn⟩ := hns
    refine ⟨m, hn, fun h' hsb => ?_⟩
    exact hQ _ _ _ _ _ _ hK (c1.trans le) (p1.trans pre) (Sf.unput (tk := s'.toks) cL bL hdL hou hsb) (.of hrd)

theorem comp_store {Q : Shared → Prop} {E : Value → Shared → Prop} {C1 : Cold} {ρ1 : List Addr} {K : List D → List MO → Prop} {L D0 : Addr} {s' : Shared} {y : Str} {py : Pos} (ok : ActOk B a) (hy : StoreOk a y) (hd : CompDone B a Δ C1 ρ1 K L D0 s')
    (hQ : ∀ outs C' ρ' μ' s'', K outs μ' → C1.le C' → ρ1 <+: ρ' → St B a ((y, .list outs) :: Δ) C' ρ' μ' s'' → Q s'') :
    wpAny (model pw B.w) a.A (PySem.assign (.Name y py) a.env (.ref D0)) (fun _ s'' => ∃ m, s''.heap.Ns L m ∧ ∀ h', Heap.SameBut L s''.heap h' → Q { s'' with heap := h' }) E s' := by
  obtain ⟨C', ρ', μ', outs, oL, hK, le, pre, cL, bL, hdL, hns, hoL, hou, hrd, Sf⟩ := hd
  obtain ⟨m, hn⟩ := hns
  refine PyProof.Rows.assign_Name (wp_store ok Sf hy (.of (hrd.mono (Cold.le_put cL))) fun s2 S2 => ?_)
  obtain ⟨o2, ho2, q1, q2, _⟩ := S2.cold _ _ (Cold.put_self C' L (false, oL))
  obtain ⟨o, es, ep, ho, hdd, hrest⟩ := hn
  rw [hoL] at ho; cases ho
  exact ⟨m, ⟨o2, es, ep, ho2, q2.trans hdd, hrest⟩, fun h' hsb => hQ _ _ _ _ _ hK le pre (S2.unput (tk := s2.toks) cL bL hdL hou hsb)⟩

theorem Ex1.asgComp1 {elt tg iter : Expr} {ifs : List Expr} {y : Str} {py spos : Pos} (cl : List (Str × Addr)) (Δin : DE)
    (h : EvIter B a Δ μ tg iter fun items μ1 => ∀ L, LastK B (compAct a scope cl L) elt tg ifs (fun _ μ2 outs => Kn ((y, .list outs) :: Δ) μ2) items Δin μ1 [])
    (hsw : swapsWith (.ListComp elt [⟨tg, iter, ifs, 0⟩] scope pos) (some (.Name y py)) spos.line a.env = pure true) (hy : StoreOk a y)
    (hclos : closureFor scope a.env = pure cl) (hcap : CapOk a scope cl Δ Δin) (hco : ClOk a cl) (hsc : scopeOk scope = true) (hs : ∀ x, foldedSetIterable iter a.env x = pure x := by intro _; rfl) :
    Ex1 B a Δ μ (.Assign [.Name y py] (.ListComp elt [⟨tg, iter, ifs, 0⟩] scope pos) spos) Kn Kr := fun ok C ρ s S Q E hn hr hE => by
  obtain ⟨hcell, hkind, hnames⟩ := scopeOk.get hsc
  rw [exec_Assign_Name_used _ _ _ _ hsw]
  refine wpAny_bind (wpAny_standAt (wpAny_bind ?_))
  show wpAny _ a.A (do let _ ← comprehension (.ListComp elt [⟨tg, iter, ifs, 0⟩] scope pos) scope a.env _ (newList []) false (eval iter a.env) (some (PySem.assign (.Name y py) a.env))) _ _ s
  refine wpAny_bind (wpAny_mono (wpAny_comprehension_free (use := some (PySem.assign (.Name y py) a.env)) (Q := fun _ s' => Q .next s') rfl hs hclos hkind hnames
    (h ok C ρ s S _ E (fun it os items C1 ρ1 μ1 s1 k1 c1 p1 S1 y1 z1 => ?_) hE)) (fun _ s' hq => wpAny_pure (wpAny_pure hq)) fun _ _ e => e)
  refine comp_run (K := fun outs μ2 => Kn ((y, .list outs) :: Δ) μ2) (RR := fun acc C => compPost (model pw B.w) a.A E (some (PySem.assign (.Name y py) a.env)) (fun _ s' => Q .next s') acc C) rfl rfl hcell hkind hco.get ok S1 z1 hcap.get (fun L D0 C2 s4 o hc hd le Sx R hR => ?_) fun L D0 s' hdone => ?_
  · exact compLast (a := compAct a scope cl L) (r := []) rfl (turn_last1 ..) (ok.comp hkind hco.get L) rfl (k1 L) Sx (y1.mono le) hc hd .nil hR
  · exact comp_store ok hy hdone fun outs C' ρ' μ' s'' k c p S' => hn _ _ _ _ _ k (c1.trans c) (p1.trans p) S'
theorem Ex1.asgComp2 {elt t1 i1 tg iter : Expr} {ifs : List Expr} {y : Str} {py spos : Pos} (cl : List (Str × Addr)) (Δin : DE)
    (h : EvIter B a Δ μ t1 i1 fun items μ1 => ∀ L, TwoK B (compAct a scope cl L) elt t1 tg iter ifs (fun _ μ2 outs => Kn ((y, .list outs) :: Δ) μ2) items Δin μ1 [])
    (hsw : swapsWith (.ListComp elt [⟨t1, i1, [], 0⟩, ⟨tg, iter, ifs, 0⟩] scope pos) (some (.Name y py)) spos.line a.env = pure true) (hy : StoreOk a y)
    (hclos : closureFor scope a.env = pure cl) (hcap : CapOk a scope cl Δ Δin) (hco : ClOk a cl) (hsc : scopeOk scope = true) (hs : ∀ x, foldedSetIterable i1 a.env x = pure x := by intro _; rfl)
    (hs2 : ∀ env x, foldedSetIterable iter env x = pure x := by intro _ _; rfl) :
    Ex1 B a Δ μ (.Assign [.Name y py] (.ListComp elt [⟨t1, i1, [], 0⟩, ⟨tg, iter, ifs, 0⟩] scope pos) spos) Kn Kr := fun ok C ρ s S Q E hn hr hE => by
  obtain ⟨hcell, hkind, hnames⟩ := scopeOk.get hsc
  rw [exec_Assign_Name_used _ _ _ _ hsw]
  refine wpAny_bind (wpAny_standAt (wpAny_bind ?_))
  show wpAny _ a.A (do let _ ← comprehension (.ListComp elt [⟨t1, i1, [], 0⟩, ⟨tg, iter, ifs, 0⟩] scope pos) scope a.env _ (newList []) false (eval i1 a.env) (some (PySem.assign (.Name y py) a.env))) _ _ s
  refine wpAny_bind (wpAny_mono (wpAny_comprehension_free (use := some (PySem.assign (.Name y py) a.env)) (Q := fun _ s' => Q .next s') rfl hs hclos hkind hnames
    (h ok C ρ s S _ E (fun it os items C1 ρ1 μ1 s1 k1 c1 p1 S1 y1 z1 => ?_) hE)) (fun _ s' hq => wpAny_pure (wpAny_pure hq)) fun _ _ e => e)
  refine comp_run (K := fun outs μ2 => Kn ((y, .list outs) :: Δ) μ2) (RR := fun acc C => compPost (model pw B.w) a.A E (some (PySem.assign (.Name y py) a.env)) (fun _ s' => Q .next s') acc C) rfl rfl hcell hkind hco.get ok S1 z1 hcap.get (fun L D0 C2 s4 o hc hd le Sx R hR => ?_) fun L D0 s' hdone => ?_
  · exact compTwo (a := compAct a scope cl L) (ok.comp hkind hco.get L) rfl (hs2 _) (k1 L) Sx (y1.mono le) hc hd .nil hR
  · exact comp_store ok hy hdone fun outs C' ρ' μ' s'' k c p S' => hn _ _ _ _ _ k (c1.trans c) (p1.trans p) S'
end
/-! B15 -/
section
variable {B : Bs} {a : Act} {Δ : DE} {μ : List MO} {K : D → List MO → Prop} {pos p : Pos} {Kn : DE → List MO → Prop} {Kr : D → List MO → Prop}

/-- the truth of a datum -/
@[reducible] noncomputable def Truth : D → Bool → Prop
  | .bool b, c => c = b
  | .int i, c => c = (i != 0)
  | .none, c => c = false
  | _, _ => False
theorem EvB.plain {e : Expr} {KB : Bool → List MO → Prop} (h : Ev B a Δ μ e fun d μ1 => ∃ c, Truth d c ∧ KB c μ1)
    (he : ∀ whole, isTrue e a.env whole = (do let v ← whole; standAt e.pos; holding [v] (truthy v)) := by intro _; rfl) : EvB B a Δ μ e KB := fun ok C ρ s S Q E hQ hE =>
  PyProof.Rows.isTrue_plain (h ok C ρ s S _ E (fun v d C1 ρ1 μ1 s1 k1 c1 p1 S1 r1 => by
    obtain ⟨c, ht, hk⟩ := k1
    cases d <;> try exact ht.elim
    · cases ht; cases r1; exact PyProof.Rows.truthy_none (hQ _ _ _ _ _ hk c1 p1 S1)
    · cases ht; cases r1; exact wpAny_truthy_bool (hQ _ _ _ _ _ hk c1 p1 S1)
    · cases ht; cases r1; exact truthy_int (hQ _ _ _ _ _ hk c1 p1 S1)) hE) (he _)

theorem Op.addl {ds es : List D} (hz : ds.length + es.length ≤ 16777216) (h : K (.list (ds ++ es)) μ) : Op [.list ds, .list es] (fun vs => binaryOp .Add (vs.getD 0 .none) (vs.getD 1 .none)) μ K :=
  Op.two fun B a Δ ok C ρ s v w S hv hw Q E hQ => by
    obtain ⟨l, vs, rfl, hl, r⟩ := Rd.isList hv S.cold
    obtain ⟨b, ws, rfl, hb, q⟩ := Rd.isList hw S.cold
    obtain ⟨⟨cls, dd, data, sl⟩, ho, hc, n, hd⟩ := id hl
    obtain ⟨⟨cls2, dd2, data2, sl2⟩, ho2, hc2, n2, hd2⟩ := id hb
    simp only at hc hd hc2 hd2
    subst hc hd hc2 hd2
    have e : vs.toArray ++ ws.toArray = (vs ++ ws).toArray := by simp
    refine concat_meets ⟨_, ho, rfl⟩ ⟨_, ho2, rfl⟩ noFill_list_add seq_list_add PySem.F.slot_list_add PySem.F.entry_list_add (PySem.F.args_list_add_2 _ _) (list_addW l b vs.toArray ws.toArray n n2 dd dd2 sl sl2 (by rw [List.size_toArray, List.size_toArray, r.length, q.length, sizeLine_eq]; exact hz)) ⟨ho, ho2, ?_⟩
    rw [e]
    obtain ⟨x1, x2, x3⟩ := S.newSeq (cl := "list") (vs := vs ++ ws) (n := 0) (tk := s.toks)
    exact hQ _ _ _ _ _ _ h x1 List.prefix_rfl x3 (.of (.list x2 rfl rfl rfl ((r.append q).mono x1)))
theorem Op.adds {x y : Str} (hz : x.length + y.length ≤ 16777216) (h : K (.str (x ++ y)) μ) : Op [.str x, .str y] (fun vs => binaryOp .Add (vs.getD 0 .none) (vs.getD 1 .none)) μ K :=
  Op.two fun B a Δ ok C ρ s v w S hv hw Q E hQ => by
    cases hv; cases hw
    exact PyProof.Rows.add_str (fun t' tk => hQ _ _ _ _ _ _ h (.refl _) List.prefix_rfl (S.tok _) (.str _ _)) (by rw [sizeLine_eq]; exact hz)

/-! methods of the built-in kinds -/
@[reducible] noncomputable def MethT (μ : List MO) (T : String) : D → Prop
  | .str _ => T = "str"
  | .bytes _ => T = "bytes"
  | .list _ => T = "list"
  | .obj k => (∃ ds, μ[k]? = some (.list ds) ∧ T = "list") ∨ ∃ ns, μ[k]? = some (.barr ns) ∧ T = "bytearray"
  | _ => False

theorem Ev.meth {o e : Expr} {name : Str} {apos : Pos} {T id : String} (pa : PlainAttrs T) (slot : Slot T name id) (hty : typeOf (.builtin id) = pure (.type "method_descriptor"))
    (h : Ev B a Δ μ o fun d1 μ1 => MethT μ1 T d1 ∧ Ev B a Δ μ1 e fun d2 μ2 => OpL [d1, d2] (fun vs => PySem.call (.builtin id) vs) μ2 K)
    (hbase : attributeBase o name a.env (eval o a.env) = eval o a.env := by rfl) (hline : (apos.endLine == pos.line) = true := by rfl) (hs : noStar [e] = true := by rfl) :
    Ev B a Δ μ (.Call (.Attribute o name apos) [e] [] pos) K := fun ok C ρ s S Q E hQ hE => by
  refine Call_method1 hbase (starEach_cons hs) hline (h ok C ρ s S _ E (fun v d C1 ρ1 μ1 s1 k1 c1 p1 S1 r1 => ?_) hE)
  obtain ⟨ht, hk⟩ := k1
  have key : s1.TypeIs v T ∧ ∀ x, v = .ref x → ∃ ob, s1.heap.get? x = some ob ∧ ob.dict = none := by
    cases d <;> try exact ht.elim
    · obtain ⟨_, rfl⟩ := Rd.strI r1; subst ht; exact ⟨typeIs_str _ _ _, fun _ e => nomatch e⟩
    · obtain ⟨_, _, rfl, _⟩ := Rd.bytesI r1; subst ht; exact ⟨typeIs_bytes _ _ _, fun _ e => nomatch e⟩
    · cases ht
      obtain ⟨_, _, _, _, rfl, e, c, dn, dd, r⟩ := Rd.listI r1
      obtain ⟨o1, ho1, q1, q2, q3⟩ := S1.cold _ _ e
      exact ⟨⟨o1, ho1, q1.trans c⟩, fun x hx => by cases hx; exact ⟨o1, ho1, by rw [q3 fun _ _ q => by rw [dd] at q; cases q]; exact dn⟩⟩
    · obtain ⟨b, hb, rfl⟩ := r1
      rcases ht with ⟨ds, hm, rfl⟩ | ⟨ns, hm, rfl⟩
      · obtain ⟨o, vs, n, ho, hc, hdd, rr, hdn⟩ := S1.mu.at_ _ _ _ hb hm
        exact ⟨⟨o, ho, hc⟩, fun x hx => by cases hx; exact ⟨o, ho, hdn⟩⟩
      · obtain ⟨o, y, ho, hc, hdd, rr, hdn⟩ := S1.mu.at_ _ _ _ hb hm
        exact ⟨⟨o, ho, hc⟩, fun x hx => by cases hx; exact ⟨o, ho, hdn⟩⟩
  refine ⟨T, id, pa, slot, hty, key.1, key.2, ?_⟩
  refine Calls.callWith_builtin rfl (Calls.evalArgs_plain (Calls.spliced_cons (hk ok C1 ρ1 s1 S1 _ E (fun v2 d2 C2 ρ2 μ2 s2 k2 c2 p2 S2 r2 => Calls.spliced_nil ?_) (hE.mono c1))))
  exact k2 B a Δ ok C2 ρ2 s2 [v, v2] S2 ⟨r1.mono c2 p2, r2, trivial⟩ Q E (hQ.mono (c1.trans c2) (p1.trans p2) fun _ _ h => h)

theorem Ev.append {o e : Expr} {apos : Pos} (h : Ev B a Δ μ o fun d1 μ1 => ∃ k ds0, d1 = .obj k ∧ μ1[k]? = some (.list ds0) ∧ Ev B a Δ μ1 e fun d2 μ2 => ∃ ds, μ2[k]? = some (.list ds) ∧ d2.tree = true ∧ ds.length ≤ 16777216 ∧ K .none (μ2.set k (.list (ds ++ [d2]))))
    (hbase : attributeBase o "append" a.env (eval o a.env) = eval o a.env := by rfl) (hline : (apos.endLine == pos.line) = true := by rfl) (hs : noStar [e] = true := by rfl) :
    Ev B a Δ μ (.Call (.Attribute o "append" apos) [e] [] pos) K :=
  Ev.meth (T := "list") (id := "list.append") PySem.F.plainAttrs_list slot_list_append PySem.type_list_append (h.mono fun d1 μ1 k1 => by
    obtain ⟨k, ds0, rfl, h0, he⟩ := k1
    refine ⟨.inl ⟨ds0, h0, rfl⟩, he.mono fun d2 μ2 k2 => ?_⟩
    obtain ⟨ds, hm, ht, hz, hk⟩ := k2
    refine OpL.two (t := fun v w => PySem.call (.builtin "list.append") [v, w]) (fun B a Δ ok C ρ s v w S hv hw Q E hQ => ?_) _ fun _ _ => rfl
    obtain ⟨b, hb, rfl⟩ := hv
    obtain ⟨o, vs, n, ho, hc, hdd, rr, hdn⟩ := S.mu.at_ _ _ _ hb hm
    have hlen := rr.length
    rw [Array.length_toList] at hlen
    refine wp_append ho hc hdd (fun h' o' ho' hc' hdn' ⟨n', hd'⟩ hs' => ?_) (by rw [hlen, sizeLine_eq]; exact hz)
    exact hQ _ _ _ _ _ _ hk (.refl _) List.prefix_rfl (S.setM (tk := s.toks) hb hm rfl hs' ⟨o', _, n', ho', hc', hd', by rw [Array.toList_push]; exact rr.append (RdAll.one (hw.rd ht)), hdn'.trans hdn⟩) .none) hbase hline hs

theorem rd_strs {C : Cold} : ∀ {vs : List Value} {ys : List Str}, RdAll C vs (ys.map .str) → StrsAre vs ys
  | [], [], _ => .nil
  | _ :: _, n :: ns, h => by
    cases h with
    | cons h r => cases h with | str _ t => exact .cons n t (rd_strs r)
  | [], _ :: _, h => nomatch h
  | _ :: _, [], h => nomatch h
theorem countP_strs (k : Str) {vs : List Value} {ys : List Str} (h : StrsAre vs ys) : vs.countP (isStrOf k) = ys.count k := by
  induction h with
  | nil => rfl
  | cons n u h ih => rw [List.countP_cons, List.count_cons, ih]; rfl
theorem Ev.count {o e : Expr} {apos : Pos} (h : Ev B a Δ μ o fun d1 μ1 => ∃ ys : List Str, d1 = .list (ys.map .str) ∧ Ev B a Δ μ1 e fun d2 μ2 => ∃ k, d2 = .str k ∧ K (.int (ys.count k : Nat)) μ2)
    (hbase : attributeBase o "count" a.env (eval o a.env) = eval o a.env := by rfl) (hline : (apos.endLine == pos.line) = true := by rfl) (hs : noStar [e] = true := by rfl) :
    Ev B a Δ μ (.Call (.Attribute o "count" apos) [e] [] pos) K :=
  Ev.meth (T := "list") (id := "list.count") PySem.F.plainAttrs_list PySem.F.slot_list_count PySem.F.type_list_count (h.mono fun d1 μ1 k1 => by
    obtain ⟨ys, rfl, he⟩ := k1
    refine ⟨rfl, he.mono fun d2 μ2 k2 => ?_⟩
    obtain ⟨k, rfl, hk⟩ := k2
    refine OpL.two (t := fun v w => PySem.call (.builtin "list.count") [v, w]) (fun B a Δ ok C ρ s v w S hv hw Q E hQ => ?_) _ fun _ _ => rfl
    obtain ⟨l, vs, rfl, hl, r⟩ := Rd.isList hv S.cold
    obtain ⟨t, rfl⟩ := Rd.strI hw
    obtain ⟨⟨cls, dd, data, sl⟩, ho, hc, n, hd⟩ := id hl
    simp only at hc hd
    subst hc hd
    refine call_meets PySem.F.slot_list_count ⟨_, ho, rfl⟩ PySem.F.entry_list_count (PySem.F.args_list_count_2 _ _) (SeqAt.list_countAt l vs.toArray n dd sl (.str k t) (isStrOf k)) ⟨ho, fun y hy => (eq_isStrOf k t (rd_strs r) y (by simpa using hy)).at _ _, ?_⟩
    rw [show vs.toArray.toList = vs from rfl, countP_strs k (rd_strs r)]
    exact hQ _ _ _ _ _ _ hk (.refl _) List.prefix_rfl (S.tok _) (.int _ _)) hbase hline hs
theorem Ev.joins {o e : Expr} {apos : Pos} (h : Ev B a Δ μ o fun d1 μ1 => d1 = .str Str.empty ∧ Ev B a Δ μ1 e fun d2 μ2 => ∃ ys : List Str, d2 = .list (ys.map .str) ∧ (ys.map (·.length)).sum + ys.length ≤ 1048576 ∧ K (.str (Txt.join Str.empty ys)) μ2)
    (hbase : attributeBase o "join" a.env (eval o a.env) = eval o a.env := by rfl) (hline : (apos.endLine == pos.line) = true := by rfl) (hs : noStar [e] = true := by rfl) :
    Ev B a Δ μ (.Call (.Attribute o "join" apos) [e] [] pos) K :=
  Ev.meth (T := "str") (id := "str.join") PySem.F.plainAttrs_str PySem.F.slot_str_join PySem.F.type_str_join (h.mono fun d1 μ1 k1 => by
    obtain ⟨rfl, he⟩ := k1
    refine ⟨rfl, he.mono fun d2 μ2 k2 => ?_⟩
    obtain ⟨ys, rfl, hw, hk⟩ := k2
    refine OpL.two (t := fun v w => PySem.call (.builtin "str.join") [v, w]) (fun B a Δ ok C ρ s v w S hv hw' Q E hQ => ?_) _ fun _ _ => rfl
    obtain ⟨l, vs, rfl, hl, r⟩ := Rd.isList hw' S.cold
    obtain ⟨t, rfl⟩ := Rd.strI hv
    exact join_listW hl (by simpa using rd_strs r) (by decide) hw fun t' k => hQ _ _ _ _ _ _ hk (.refl _) List.prefix_rfl (S.tok _) (.str _ _)) hbase hline hs

/-! built-in functions -/
theorem Ev.max2 {e1 e2 : Expr} (h : Ev B a Δ μ e1 fun d μ1 => ∃ i, d = .int i ∧ Ev B a Δ μ1 e2 fun d μ2 => ∃ j, d = .int j ∧ K (.int (if j > i then j else i)) μ2) (hx : a.env.kindOf "max" = some .globalImplicit := by rfl) (hs : noStar [e1, e2] = true := by rfl) :
    Ev B a Δ μ (.Call (.Name "max" p) [e1, e2] [] pos) K :=
  Ev.callB (id := "max") (EvL.cons (h.mono fun d μ1 ⟨i, hi, k⟩ => EvL.cons (k.mono fun d2 μ2 ⟨j, hj, k2⟩ => EvL.nil (by
    subst hi hj
    exact OpL.two (t := fun v w => PySem.call (.builtin "max") [v, w]) (fun B a Δ ok C ρ s v w S hv hw Q E hQ => by
      cases hv; cases hw
      refine max_two_ints ok.hh fun h' tk hk => ?_
      have S' := S.keep0 (h' := h') (tk := tk) hk
      split
      · rename_i hc; rw [if_pos hc] at k2; exact hQ _ _ _ _ _ _ k2 (.refl _) List.prefix_rfl S' (.int _ _)
      · rename_i hc; rw [if_neg hc] at k2; exact hQ _ _ _ _ _ _ k2 (.refl _) List.prefix_rfl S' (.int _ _)) _ fun _ _ => rfl))))
    PyProof.Rows.Boot.«max» (by simp [biNames]) hx (by simp) hs (by decide) rfl
theorem Ev.ord {e : Expr} (h : Ev B a Δ μ e fun d μ1 => ∃ c, d = .str ⟨#[c]⟩ ∧ K (.int c) μ1) (hx : a.env.kindOf "ord" = some .globalImplicit := by rfl) (hs : noStar [e] = true := by rfl) : Ev B a Δ μ (.Call (.Name "ord" p) [e] [] pos) K :=
  Ev.callB (id := "ord") (EvL.cons (h.mono fun d μ1 ⟨c, hc, k⟩ => EvL.nil (by
    subst hc
    exact OpL.one (t := fun v => PySem.call (.builtin "ord") [v]) (fun B a Δ ok C ρ s v S hv Q E hQ => by
      obtain ⟨_, rfl⟩ := Rd.strI hv
      exact P.ord_of_char (hQ _ _ _ _ _ _ k (.refl _) List.prefix_rfl (S.tok _) (.int _ _))) _ fun _ => rfl)))
    PyProof.Rows.Boot.«ord» (by simp [biNames]) hx (by simp) hs (by decide) rfl
theorem Ev.chr {e : Expr} (h : Ev B a Δ μ e fun d μ1 => ∃ i, d = .int i ∧ 0 ≤ i ∧ i ≤ 1114111 ∧ K (.str ⟨#[i.toNat]⟩) μ1) (hx : a.env.kindOf "chr" = some .globalImplicit := by rfl) (hs : noStar [e] = true := by rfl) : Ev B a Δ μ (.Call (.Name "chr" p) [e] [] pos) K :=
  Ev.callB (id := "chr") (EvL.cons (h.mono fun d μ1 ⟨c, hc, h0, h1, k⟩ => EvL.nil (by
    subst hc
    exact OpL.one (t := fun v => PySem.call (.builtin "chr") [v]) (fun B a Δ ok C ρ s v S hv Q E hQ => by
      obtain ⟨_, rfl⟩ := Rd.intI hv
      exact chr_of_range h0 h1 (hQ _ _ _ _ _ _ k (.refl _) List.prefix_rfl (S.tok _) (.str _ _))) _ fun _ => rfl)))
    PyProof.Rows.Boot.«chr» (by simp [biNames]) hx (by simp) hs (by decide) rfl
theorem Ev.sorted {e : Expr} (h : Ev B a Δ μ e fun d μ1 => ∃ ns : List Int, d = .list (ns.map .int) ∧ ns.length < 64 ∧ ∀ ns' : List Int, ns'.Perm ns → ns'.Pairwise (· ≤ ·) → K (.list (ns'.map .int)) μ1) (hx : a.env.kindOf "sorted" = some .globalImplicit := by rfl) (hs : noStar [e] = true := by rfl) :
    Ev B a Δ μ (.Call (.Name "sorted" p) [e] [] pos) K :=
  Ev.callB (id := "sorted") (EvL.cons (h.mono fun d μ1 ⟨ns, hc, h64, k⟩ => EvL.nil (by
    subst hc
    exact OpL.one (t := fun v => PySem.call (.builtin "sorted") [v]) (fun B a Δ ok C ρ s v S hv Q E hQ => by
      obtain ⟨l, vs, rfl, hl, r⟩ := Rd.isList hv S.cold
      refine sorted_ints hl (rd_ints r) (by rw [r.length, List.length_map]; exact h64) fun out ns' a1 a2 a3 => ?_
      obtain ⟨e, he⟩ := sortedAll_at s.heap vs out
      have q := S.put (h' := sortedAll s.heap vs out) (tk := s.toks) (b := s.heap.objs.size + 1) (p := (true, seqObj "list" out e)) (fun _ _ => sortedAll_old) (Nat.le_succ _) ⟨_, he, .rfl _⟩
      exact hQ _ _ _ _ _ _ (k ns' a2 a3) q.1 List.prefix_rfl q.2 (.of (.list (vs := out.toList) (n := e) (Cold.put_self _ _ _) rfl rfl (by simp [seqObj]) (ints_rd a1)))) _ fun _ => rfl)))
    PyProof.Rows.Boot.«sorted» (by simp [biNames]) hx (by simp) hs (by decide) rfl
theorem Ev.toStr {e : Expr} (h : Ev B a Δ μ e fun d μ1 => ∃ i : Int, d = .int i ∧ i.natAbs.log2 < 1920 ∧ K (.str (toString i : String)) μ1) (hx : a.env.kindOf "str" = some .globalImplicit := by rfl) (hs : noStar [e] = true := by rfl) : Ev B a Δ μ (.Call (.Name "str" p) [e] [] pos) K :=
  Ev.callT (T := "str") (EvL.cons (h.mono fun d μ1 ⟨i, hi, hl, k⟩ => EvL.nil (by
    subst hi
    exact OpL.one (t := fun v => PySem.call (.type "str") [v]) (fun B a Δ ok C ρ s v S hv Q E hQ => by
      obtain ⟨_, rfl⟩ := Rd.intI hv
      exact P.str_of_int hl (hQ _ _ _ _ _ _ k (.refl _) List.prefix_rfl (S.tok _) (.str _ _))) _ fun _ => rfl)))
    PyProof.Rows.Boot.«str» (by simp [biNames]) hx (by simp) hs (by decide) rfl
end
/-! C1 -/
open Builtin.Bytes (exported decodersThatHold checkResize exportsOf)

/-- what may hold a bytearray while it runs -/
noncomputable def holdIds : List String := ["bytearray.__contains__", "bytearray.__mod__", "bytearray.__rmod__", "_struct.pack_into.held", "bytearray.find.held"] ++ decodersThatHold
noncomputable def noHold : Code → Bool
  | .builtin id _ => !holdIds.contains id
  | _ => true
theorem noHold_id {id : String} {args : Args} (h : holdIds.contains id = false) : noHold (.builtin id args) = true := by show (!holdIds.contains id) = true; rw [h]; rfl
noncomputable def CleanB (l : List (Code × Pos)) : Prop := ∀ x ∈ l, noHold x.1 = true
theorem CleanB.cons {c : Code} {p : Pos} {l : List (Code × Pos)} (h : noHold c = true) (k : CleanB l) : CleanB ((c, p) :: l) := fun x hx => by
  rcases List.mem_cons.mp hx with rfl | hx
  · exact h
  · exact k x hx

noncomputable def wpC {α : Type} (M : Model) (A : Around) (t : Sem α) (Q : α → Shared → Prop) (E : Value → Shared → Prop) (s : Shared) : Prop :=
  ∀ Γ p, Γ.In A → noHold Γ.code = true → CleanB Γ.below → Sem.wp M Γ t (fun a _ s' => Q a s') (fun e _ s' => E e s') p s
noncomputable def codeC (M : Model) (A : Around) (c : Code) (R : Result → Shared → Prop) (s : Shared) : Prop :=
  ∀ Γ p, Γ.code = c → Γ.Below A → CleanB Γ.below → wpCode M Γ R p s

section
variable {α β : Type} {M : Model} {A : Around} {E : Value → Shared → Prop} {s : Shared}
theorem wpC.of {t : Sem α} {Q : α → Shared → Prop} (h : wpAny M A t Q E s) : wpC M A t Q E s := fun Γ p i _ _ => h Γ p i
theorem codeC.of {c : Code} {R : Result → Shared → Prop} (h : codeAny M A c R s) : codeC M A c R s := fun Γ p e b _ => h Γ p e b
theorem wpC.mono {t : Sem α} {Q Q' : α → Shared → Prop} {E' : Value → Shared → Prop} (h : wpC M A t Q E s) (hQ : ∀ a s, Q a s → Q' a s) (hE : ∀ e s, E e s → E' e s) : wpC M A t Q' E' s :=
  fun Γ p i n c => Sem.wp_mono M Γ t (fun a _ s => hQ a s) (fun e _ s => hE e s) p s (h Γ p i n c)
theorem wpC.monoQ {t : Sem α} {Q Q' : α → Shared → Prop} (h : wpC M A t Q E s) (hQ : ∀ a s, Q a s → Q' a s) : wpC M A t Q' E s := h.mono hQ fun _ _ x => x
theorem wpC.bind {m : Sem α} {f : α → Sem β} {Q : β → Shared → Prop} (h : wpC M A m (fun a s' => wpC M A (f a) Q E s') E s) : wpC M A (m >>= f) Q E s := fun Γ p i n c => by
  rw [Sem.wp_bind']
  exact Sem.wp_mono M Γ m (fun a p' s' h' => h' Γ p' i n c) (fun _ _ _ h' => h') p s (h Γ p i n c)
/-- a plain step, and then others -/
theorem wpC.step {m : Sem α} {f : α → Sem β} {Q : β → Shared → Prop} (h : wpAny M A m (fun a s' => wpC M A (f a) Q E s') E s) : wpC M A (m >>= f) Q E s := .bind (.of h)
theorem wpC.done {a : α} {Q : α → Shared → Prop} (h : Q a s) : wpC M A (Pure.pure a) Q E s := .of (wpAny_pure h)
theorem wpC.onRaise {m : Sem α} {k : Value → Sem Unit} {Q : α → Shared → Prop} (h : wpC M A m Q (fun e s' => wpC M A (k e) (fun _ s'' => E e s'') E s') s) : wpC M A (m.onRaise k) Q E s := fun Γ p i n c => by
  rw [Sem.wp_onRaise]
  exact Sem.wp_mono M Γ m (fun _ _ _ h' => h') (fun e p' s' h' => h' Γ p' i n c) p s (h Γ p i n c)
theorem wpC.attempt {m : Sem α} {Q : Except Value α → Shared → Prop} (h : wpC M A m (fun a => Q (.ok a)) (fun e => Q (.error e)) s) : wpC M A m.attempt Q E s := fun Γ p i n c => by
  rw [Sem.wp_attempt]; exact h Γ p i n c
theorem wpC.tryCatch {m : Sem α} {k : Value → Sem α} {Q : α → Shared → Prop} (h : wpC M A m Q (fun e s' => wpC M A (k e) Q E s') s) : wpC M A (MonadExcept.tryCatch m k) Q E s := fun Γ p i n c => by
  rw [Sem.wp_tryCatch']
  exact Sem.wp_mono M Γ m (fun _ _ _ h' => h') (fun e p' s' h' => h' Γ p' i n c) p s (h Γ p i n c)
theorem wpC.holding {vs : List Value} {m : Sem α} {Q : α → Shared → Prop} (h : wpC M A m Q E s) : wpC M A (PySem.holding vs m) Q E s := fun Γ p i n c => by
  rw [Sem.wp_holding]; exact h Γ p i n c
theorem wpC.run {c : Code} {h : Option Value} {Q : Flow → Shared → Prop} (hc : codeC M (A.mark h) c (fun r s' => match r with | .ok f => Q f s' | .error e => E e s') s) (hnb : h ≠ some byPass) :
    wpC M A (PySem.run c h) Q E s := fun Γ p i n cl => by
  rw [Sem.wp_run]; exact hc _ p rfl (i.enter c h p hnb) (.cons n cl)
theorem wpC.runValue {c : Code} {Q : Value → Shared → Prop} (hc : codeC M A c (fun r s' => match r with | .ok (.ret v) => Q v s' | .ok _ => False | .error e => E e s') s) : wpC M A (PySem.runValue c) Q E s := fun Γ p i n cl => by
  rw [Sem.wp_runValue]; exact hc _ p rfl (i.enter c none p (by intro x; cases x)) (.cons n cl)
theorem wpC.call {f : Value} {pos : List Value} {kw : List (Str × Value)} {Q : Value → Shared → Prop}
    (hc : codeC M A (.call f ⟨pos, kw⟩) (fun r s' => match r with | .ok (.ret v) => Q v s' | .ok _ => False | .error e => E e s') s) : wpC M A (PySem.call f pos kw) Q E s := .runValue hc
theorem wpC.runOwn {env : Env} {c : Code} {h : Option Value} {Q : Flow → Shared → Prop} (hc : codeC M (A.mark h) c (fun r s' => match r with | .ok f => Q f s' | .error e => cameBackBy M A env E e s') s) (hnb : h ≠ some byPass) :
    wpC M A (PySem.runOwn c env h) Q E s := by
  unfold PySem.runOwn
  refine .onRaise (.run (fun Γ p e b cl => wpCode_mono (fun r s' q => ?_) (hc Γ p e b cl)) hnb)
  cases r with
  | ok f => exact q
  | error e => exact .of q
theorem codeC.mono {c : Code} {R R' : Result → Shared → Prop} (h : codeC M A c R s) (hR : ∀ r s, R r s → R' r s) : codeC M A c R' s := fun Γ p hc hb cl => wpCode_mono hR (h Γ p hc hb cl)
theorem codeC.ofTree {c : Code} {R : Result → Shared → Prop} (hn : noHold c = true)
    (h : wpC M (A.under c) (M.den c) (fun fin s' => match fin with | .done f => R (.ok f) s' | .again c' => c'.quiet = true ∧ codeC M A c' R s')
      (fun e s' => R (.error e) s') s) : codeC M A c R s := fun Γ p hc hΓ cl => by
  rw [wpCode_iff_wp, hc]
  refine Sem.wp_mono M Γ _ (fun fin p' s' h' => ?_) (fun _ _ _ h' => h') p s (h Γ p (hc ▸ hΓ.in) (by rw [hc]; exact hn) cl)
  cases fin with
  | done f => exact h'
  | again c' => exact ⟨h'.1, h'.2 (Γ.goto c') p' rfl (hΓ.goto c') cl⟩
theorem codeC.loop {c : Code} {R : Result → Shared → Prop} (hn : noHold c = true) (I : Nat → Shared → Prop)
    (turn : ∀ n s, I n s → wpC M (A.under c) (M.den c)
      (fun fin s' => match fin with | .done f => R (.ok f) s' | .again c' => c'.quiet = true ∧ ((c' = c ∧ ∃ m, m < n ∧ I m s') ∨ codeC M A c' R s')) (fun e s' => R (.error e) s') s)
    (n : Nat) (h : I n s) : codeC M A c R s := by
  induction n using Nat.strongRecOn generalizing s with
  | ind n ih =>
    refine .ofTree hn ((turn n s h).mono (fun fin s' hf => ?_) fun _ _ h' => h')
    cases fin with
    | done f => exact hf
    | again c' =>
      obtain ⟨hq, ⟨rfl, m, hm, hI⟩ | hk⟩ := hf
      · exact ⟨hq, ih m hm hI⟩
      · exact ⟨hq, hk⟩

theorem wpC.stackAny {f : Code × Pos → Bool} {Q : Bool → Shared → Prop} (hf : ∀ x : Code × Pos, noHold x.1 = true → f x = false) (h : Q false s) : wpC M A (do return (← stack).any f) Q E s := fun Γ p i n c => by
  show Q (((Γ.code, p) :: Γ.below).any f) s
  have e : ((Γ.code, p) :: Γ.below).any f = false := by
    rw [List.any_eq_false]
    intro x hx
    rw [hf x (CleanB.cons n c x hx)]; simp
  rw [e]; exact h
/-- no code on a clean stack holds a bytearray -/
theorem exp_clean {c : Code} {p : Pos} (h : noHold c = true) {h1 h2 : (v : Value) → (tail : List Value) → (kw : List (Str × Value)) → Pos → Bool} {h3 : Value → (v : Value) → (tail : List Value) → (kw : List (Str × Value)) → Pos → Bool}
   {h4 : (v : Value) → (tail : List Value) → (kw : List (Str × Value)) → Pos → Bool} {h5 : Value → Value → List Value → (kw : List (Str × Value)) → Pos → Bool} {h6 : String → (v : Value) → (tail : List Value) → (kw : List (Str × Value)) → Pos → Bool}
   (hid : ∀ id v t kw p, decodersThatHold.contains id = false → h6 id v t kw p = false) : exported.match_1 (fun _ => Bool) (c, p) h1 h2 h3 h4 h5 h6 (fun _ => false) = false := by
  cases c with
  | builtin id args =>
    have h : holdIds.contains id = false := by rw [← Bool.not_eq_true']; exact h
    have ne : ∀ x ∈ holdIds, id ≠ x := fun x hx e => by rw [e, List.contains_iff_mem.mpr hx] at h; cases h
    have hd : decodersThatHold.contains id = false := by
      rw [List.contains_eq_mem, decide_eq_false_iff_not]
      exact fun hm => ne id (List.mem_append_right _ hm) rfl
    delta exported.match_1
    refine (dif_neg (ne _ (.head _))).trans ((dif_neg (ne _ (.tail _ (.head _)))).trans ((dif_neg (ne _ (.tail _ (.tail _ (.head _))))).trans ((dif_neg (ne _ (.tail _ (.tail _ (.tail _ (.head _)))))).trans ((dif_neg (ne _ (.tail _ (.tail _ (.tail _ (.tail _ (.head _))))))).trans ?_))))
    cases args with
    | mk pos kw => cases pos with
      | nil => rfl
      | cons v t => exact hid id v t kw p hd
  | _ => rfl
theorem wpC.exported {v : Value} {Q : Bool → Shared → Prop} (h : Q false s) : wpC M A (Builtin.Bytes.exported v) Q E s :=
  .stackAny (fun _ hx => exp_clean hx fun _ _ _ _ _ e => (congrArg (_ && ·) e).trans (Bool.and_false _)) h
end
/-! HD -/
noncomputable abbrev callerC : Ctx := ⟨.builtin "claim.caller" {}, none, none, [], none⟩
theorem wp_of_wpC {M : Model} {t : Sem Fin} {R : Result → Shared → Prop} {s : Shared} (h : wpC M callerA t (fun fin s' => ∃ f, fin = .done f ∧ R (.ok f) s') (fun e s' => R (.error e) s') s) :
    Sem.wp M callerC t (Sem.finPost M callerC R) (fun e _ s' => R (.error e) s') default s := by
  refine Sem.wp_mono M callerC t (fun fin p' s' h' => ?_) (fun _ _ _ h' => h') default s (h callerC default caller_in (by decide +kernel) (fun x hx => nomatch hx))
  obtain ⟨f, rfl, hf⟩ := h'
  exact hf

theorem ends_bothC {prog : Program} {w : World} {t : Sem Fin} {s : Shared} {R : Result → Shared → Prop} (hreg : s.asleep)
    (h : wpC (model prog w) callerA t (fun fin s' => ∃ f, fin = .done f ∧ (R (.ok f) s' ∧ leftWithCleanup s'.gens = false)) (fun e s' => R (.error e) s' ∧ leftWithCleanup s'.gens = false) s) :
    ∃ n r s' s'', runN (denote table) prog w n s ⟨t, .builtin "claim.caller" {}, default, []⟩ = .halted (outcomeOf r) s' ∧
      schedN (denote table) prog w n (.single s ⟨t, .builtin "claim.caller" {}, default, []⟩) = .halted (outcomeOf r) s' ∧ s'.forget = s''.forget ∧ R r s'' := by
  obtain ⟨n, r, s₁, s₂, hs, hn, hfo, hR⟩ := wp_halts_full (M := model prog w) (R := R) hreg (wp_of_wpC (R := fun r s' => R r s' ∧ leftWithCleanup s'.gens = false) h)
  exact ⟨n, r, s₂, s₁, hn, hs, hfo, hR⟩

/-- from a walk over clean stacks to what a row says of a call -/
theorem callFromC {c : ClaimW} {tree : List Value → Sem Fin} {w : World} {s : Shared} {free : Addr → Prop} {gens : Prop} {kept : Heap → Prop} (hz : s.asleep) (hgens : s.gens = #[])
    (hspec : ∀ args, c.pre args = true → WData.layableAll args = true → ∀ ord : List DictEntry → List DictEntry, (∀ l, (ord l).Perm l) →
      ∃ vs s₁, layAllW c.records (classAt s.heap) w.params ord args s = some (vs, s₁) ∧
        wpC (model c.prog w) callerA (tree vs) (fun fin s' => ∃ f, fin = .done f ∧ (c.Ends s args vs s₁ (.ok f) s' ∧ s'.os = s.os ∧ AllBare s'.gens ∧ kept s'.heap))
          (fun e s' => c.Ends s args vs s₁ (.error e) s' ∧ s'.os = s.os ∧ AllBare s'.gens ∧ kept s'.heap) s₁) :
    c.CallFrom (fun vs => ⟨tree vs, .builtin "claim.caller" {}, default, []⟩) w free gens kept s := by
  intro args hpre hlay ord hord
  obtain ⟨vs, s₁, hlaid, hcode⟩ := hspec args hpre hlay ord hord
  have hal := layAllW_rest _ _ _ hlaid
  have hcode' := hcode.mono (Q' := fun fin s' => ∃ f, fin = .done f ∧ ((c.Ends s args vs s₁ (.ok f) s' ∧ s'.os = s.os ∧ kept s'.heap) ∧ leftWithCleanup s'.gens = false))
    (E' := fun e s' => (c.Ends s args vs s₁ (.error e) s' ∧ s'.os = s.os ∧ kept s'.heap) ∧ leftWithCleanup s'.gens = false)
    (fun fin s' x => let ⟨f, e, h1, h2, h3, h4⟩ := x; ⟨f, e, ⟨h1, h2, h4⟩, leftWithCleanup_false_of_bare h3⟩) (fun e s' x => let ⟨h1, h2, h3, h4⟩ := x; ⟨⟨h1, h2, h4⟩, leftWithCleanup_false_of_bare h3⟩)
  obtain ⟨k, r, s', s'', hrun, hsched, hfo, hcase, hos, hkp⟩ := ends_bothC (R := fun r s' => c.Ends s args vs s₁ r s' ∧ s'.os = s.os ∧ kept s'.heap) (Shared.asleep_of_life hal.2.2.2 hz) hcode'
  obtain ⟨eh, _, _, eo, _⟩ := Shared.forget_eq hfo
  have hcase := hcase.congr eh
  rw [← eh] at hkp
  rw [← eo] at hos
  have hlife : s'.heap.life = s.heap.life := (runN_life _ _ _ hrun).trans hal.2.2.2
  refine ⟨vs, s₁, hlaid, k, _, s', hsched, ?_, (fun _ i x hx => by rw [hgens] at hx; simp at hx), hkp, by rw [hlife], Shared.rest_eq hos⟩
  rcases hcase with ⟨v, rfl, d1, d2, d3, d4, d5⟩ | ⟨e, ob, cls, rfl, d1, d2, d3, d4, d5⟩
  · exact .inl ⟨v, rfl, d1, d2, d3, fun b o y _ => d4 b o y, d5⟩
  · exact .inr ⟨e, ob, cls, rfl, d1, d2, d3, d4, fun b o y _ => d5 b o y⟩

/-- what is to be shown of a law's call, over clean stacks -/
noncomputable def WalkCl (q : Program) (loose : List Str) (XP : (Str → Option Value) → Heap → Prop) (YP : World → Heap → Prop) (r : RowW) (d : DefRec) (kwd : List (Str × Expr)) (run : Value → List Value → Sem Value) : Prop :=
  ∀ (w : World) (s₀ s₁ : Shared) (mg mb : Str → Option Value), Ground q loose r.records XP w s₀ mg mb s₁.heap → YP w s₁.heap → ∀ (a : Addr) (o : Obj) (pm cd doc dV kV : Value), s₁.heap.get? a = some o →
    o.data = .func { docDef d.name d.params d.body d.scope pm cd doc with defaults := dV, kwdefaults := kV } → s₁.heap.CodeRec cd d.name → Dflts mg s₁.heap d.params kwd dV kV → mg d.name = some (.ref a) → s₁.gens = #[] →
    ∀ (args : List WData) (vals : List Value) (as : List Addr), r.claim.pre args = true → WData.layableAll args = true → ReadsAllW r.records (classAt s₀.heap) s₁.heap vals args as → WellAll w.params s₁.heap vals args → (∀ a ∈ as, (a == sysModules) = false) →
      wpC (model r.prog w) callerA (run (.ref a) vals) (fun v s' => GoodWG r.claim (classAt s₀.heap) (ExcName.means s₀.heap) args s₁ (.ok (.ret v)) s')
        (fun e s' => GoodWG r.claim (classAt s₀.heap) (ExcName.means s₀.heap) args s₁ (.error e) s') s₁

theorem holds_clean {r : OpenRow} {q : Program} {loose : List Str} {Xt : Shared → Bool} {XP : (Str → Option Value) → Heap → Prop} {α : Type} {Yf : Shared → α} {Ya : World → α} {YP : World → Heap → Prop} {d : DefRec} {kwd : List (Str × Expr)} {N : Nat}
    (left : LeftO r.prog q loose Xt Yf Ya N) (hY : ∀ w s, Yf s = Ya w → YP w s.heap) (hYk : ∀ w h h', YP w h → (∀ b o, h.get? b = some o → h'.get? b = some o) → YP w h')
    (hX : ∀ s, Xt s = true → XP (s.heap.nsMap mainGlobals) s.heap) (hXk : ∀ mg h h', XP mg h → (∀ b o, h.get? b = some o → h'.get? b = some o) → XP mg h')
    (hdef : defOf q r.name = some (d, kwd)) (hp : r.prog.theDef r.name = some (d.params, d.body, d.scope)) (hk : kwWritten? d.params.kwonlyargs d.params.kw_defaults = some kwd) (hRf : ∀ s, Xt s = true → RecFacts r.records s.heap) (hwr : (!r.writes || r.records.isEmpty) = true)
    (k1 : r.wellSaid = true) (ok : (chainsOk q && opensWell r.prog && (frees r.toRowW && r.within.isEmpty)) = true) (hb : r.prog.bare) (hw : r.toRowW.promised)
    (call : WalkCl q loose XP YP r.toRowW d kwd fun f vs => PySem.call f vs) : r.Holds := by
  obtain ⟨ok, k5⟩ := Bool.and_eq_true_iff.mp ok
  obtain ⟨hch, o1⟩ := Bool.and_eq_true_iff.mp ok
  obtain ⟨k5, k6⟩ := Bool.and_eq_true_iff.mp k5
  obtain ⟨hsame, hu, ha, hap, hm⟩ := frees_parts k5
  refine ⟨k1, hw, ⟨⟨hb, o1, by show r.toRowW.makers.map _ = []; rw [hm]; rfl⟩, hw.witness, fun w => ⟨(left.behind hX hch w).1, fun s' hs' => ?_⟩⟩⟩
  obtain ⟨s₀, hf, hg0, s, hT, hz, hgens, hg, G00, y⟩ := (left.behind (XP := fun mg h => XP mg h ∧ RecFacts r.records h) (fun s hs => ⟨hX s hs, hRf s hs⟩) hch w).2 s' hs'
  have G0 : Ground q loose [] XP w s (s.heap.nsMap mainGlobals) (s.heap.nsMap builtinsNs) s.heap := ⟨G00.T, G00.B, G00.D, G00.TE, G00.TD, G00.W, G00.X.1, G00.cls, G00.has, G00.apart, G00.once, G00.K⟩
  have RF := G00.X.2
  refine ⟨s₀, hf, hg0, s, hT, fun n hn => ?_, RF.1, RF.2.1, ?_⟩
  · obtain rfl : n = r.name := by split at hn <;> simp_all
    exact pinned_of_view hg G0 hdef hp hk
  have hgens : s.gens = #[] := Array.eq_empty_of_size_eq_zero (beq_iff_eq.mp hgens)
  have G : Ground q loose r.records XP w s _ _ s.heap := RF.ground G0
  refine callFromC (c := r.toRowW.claim) (tree := fun vs => do match ← nsGet mainNs r.name with
      | some f => do ret (← PySem.call f vs)
      | none => unsupported "claim.caller:no-such-global") hz hgens fun args hpre hlay ord hord => ?_
  obtain ⟨⟨vs, s₁⟩, hlaid⟩ := Option.isSome_iff_exists.mp (layAllW_isSome (P := w.params) (ord := ord) G.has args r.args s (pre_splitW hpre).1)
  have keeps := layAllW_keeps _ _ _ hlaid
  have hal := layAllW_rest _ _ _ hlaid
  obtain ⟨as, hrd, hin, hold⟩ := reads_layAllW hord _ _ _ hlaid hlay s₁.heap (fun _ _ e => e)
  have L : Laid r.records w s s₁ args vs as := ⟨⟨ord, hord, hlaid⟩, hrd, hin, hold, keeps, hal.1.trans hgens, hal.2.2.1⟩
  have G₁ := G.keeps hXk keeps
  obtain ⟨a, o, pm, cd, doc, dV, kV, h1, h2, h3, h4, h5⟩ := G₁.fn hdef
  have h := call w s s₁ _ _ G₁ (hYk _ _ _ (hY w s y) keeps) a o pm cd doc dV kV h2 h3 h4 h5 (defOf_name hdef ▸ h1) L.gens args vs as hpre hlay L.reads L.well (L.low G.low)
  have hi := ident_freeW hu ha hap
  have hwi : r.toRowW.claim.within = [] := List.isEmpty_iff.mp k6
  have fin : ∀ (res : Result) (s' : Shared), GoodWG r.toRowW.claim (classAt s.heap) (ExcName.means s.heap) args s₁ res s' → r.toRowW.claim.Ends s args vs s₁ res s' ∧ s'.os = s.os ∧ AllBare s'.gens ∧ (r.writes = true → namesKept r.toRowW.claim.prog r.keeps s.heap s'.heap ∧ ∀ x ∈ r.toRowW.claim.records, ∀ a, classAt s.heap x.1 = some a → recordClass s'.heap a x.1 (x.2.map (·.1)) = true) := fun res s' g => by
    have z := g.laid (c := r.toRowW.claim) hsame hwi hi L
    exact ⟨z.1, z.2.1, z.2.2, fun q => ⟨namesKept_of hT hg r.keeps keeps g.2.1.old, noTable hwr q⟩⟩
  refine ⟨vs, s₁, hlaid, .step (wpAny_nsGet G₁.T.g ?_)⟩
  have h1' : (s.heap.nsMap mainGlobals) r.name = some (.ref a) := h1
  rw [h1']
  exact .bind (h.mono (fun v s' g => .done ⟨_, rfl, fin _ _ g⟩) fun e s' g => fin _ _ g)
/-! HX -/
/-! the head by hand: what of the heap behind the top the end asks; the statements that the look keeps -/
noncomputable def fnO (b : Arguments × List Stmt × Scope) (f q : Str) (df : Value) (pm : Str) (t : Tok) (c : Addr) : Obj :=
  { cls := .type "function", data := .func { name := f, qualname := q, params := b.1, body := .stmts b.2.1, scope := b.2.2, globals := 3, closure := [], defaults := df, kwdefaults := .none, pyModule := .str pm t, code := .ref c } }
noncomputable def heapK : Params → Frag := fun P => [
  (3, { cls := .type "dict", data := .dict #[{ hash := PyData.keyHash P ("__name__"), key := .str ("__name__") 165, val := .str ("law_on0237_01") 379 }, { hash := PyData.keyHash P ("__doc__"), key := .str ("__doc__") 166, val := .none }, { hash := PyData.keyHash P ("__package__"), key := .str ("__package__") 167, val := .none }, { hash := PyData.keyHash P ("__loader__"), key := .str ("__loader__") 168, val := .builtin "__main__.__loader__#opaque" }, { hash := PyData.keyHash P ("__spec__"), key := .str ("__spec__") 169, val := .none }, { hash := PyData.keyHash P ("__annotations__"), key := .str ("__annotations__") 170, val := .ref 6 }, { hash := PyData.keyHash P ("__builtins__"), key := .str ("__builtins__") 171, val := .ref 4 }, { hash := PyData.keyHash P ("__file__"), key := .str ("__file__") 173, val := .str ("/claim/cut.py") 172 }, { hash := PyData.keyHash P ("__cached__"), key := .str ("__cached__") 174, val := .none }, { hash := PyData.keyHash P ("MillError"), key := .str ("MillError") 217, val := .ref 31 }, { hash := PyData.keyHash P ("SheetFault"), key := .str ("SheetFault") 233, val := .ref 44 }, { hash := PyData.keyHash P ("NONE"), key := .str ("NONE") 241, val := .int 0 236 }, { hash := PyData.keyHash P ("SUB"), key := .str ("SUB") 242, val := .int 1 237 }, { hash := PyData.keyHash P ("UP"), key := .str ("UP") 243, val := .int 2 238 }, { hash := PyData.keyHash P ("AVERAGE"), key := .str ("AVERAGE") 244, val := .int 3 239 }, { hash := PyData.keyHash P ("PAETH"), key := .str ("PAETH") 245, val := .int 4 240 }, { hash := PyData.keyHash P ("nearest"), key := .str ("nearest") 256, val := .ref 57 }, { hash := PyData.keyHash P ("guess"), key := .str ("guess") 266, val := .ref 64 }, { hash := PyData.keyHash P ("unfiltered"), key := .str ("unfiltered") 281, val := .ref 71 }, { hash := PyData.keyHash P ("MOST_ADLER"), key := .str ("MOST_ADLER") 285, val := .int 65521 284 }, { hash := PyData.keyHash P ("get32"), key := .str ("get32") 293, val := .ref 78 }, { hash := PyData.keyHash P ("crc_steps"), key := .str ("crc_steps") 303, val := .ref 85 }, { hash := PyData.keyHash P ("crc32"), key := .str ("crc32") 314, val := .ref 93 }, { hash := PyData.keyHash P ("adler32"), key := .str ("adler32") 326, val := .ref 101 }, { hash := PyData.keyHash P ("block_size"), key := .str ("block_size") 335, val := .ref 108 }, { hash := PyData.keyHash P ("unstored"), key := .str ("unstored") 346, val := .ref 115 }, { hash := PyData.keyHash P ("SIGN"), key := .str ("SIGN") 358, val := .bytes #[137, 80, 78, 71, 13, 10, 26, 10] 357 }, { hash := PyData.keyHash P ("STEP"), key := .str ("STEP") 360, val := .int 4 359 }, { hash := PyData.keyHash P ("read_chunks"), key := .str ("read_chunks") 366, val := .ref 125 }, { hash := PyData.keyHash P ("check_chunks"), key := .str ("check_chunks") 372, val := .ref 130 }, { hash := PyData.keyHash P ("read_png"), key := .str ("read_png") 378, val := .ref 135 }, { hash := PyData.keyHash P ("_law_pool"), key := .str ("_law_pool") 389, val := .ref 142 }, { hash := PyData.keyHash P ("_law_take"), key := .str ("_law_take") 398, val := .ref 149 }, { hash := PyData.keyHash P ("_law_one"), key := .str ("_law_one") 406, val := .ref 156 }, { hash := PyData.keyHash P ("_law_four"), key := .str ("_law_four") 412, val := .ref 161 }, { hash := PyData.keyHash P ("_law_check"), key := .str ("_law_check") 423, val := .ref 168 }, { hash := PyData.keyHash P ("_law_chunk"), key := .str ("_law_chunk") 429, val := .ref 173 }, { hash := PyData.keyHash P ("_law_stream"), key := .str ("_law_stream") 435, val := .ref 178 }, { hash := PyData.keyHash P ("_law_parted"), key := .str ("_law_parted") 441, val := .ref 183 }, { hash := PyData.keyHash P ("_law_lots"), key := .str ("_law_lots") 447, val := .ref 188 }, { hash := PyData.keyHash P ("_law_written"), key := .str ("_law_written") 457, val := .ref 195 }, { hash := PyData.keyHash P ("_law_turned"), key := .str ("_law_turned") 463, val := .ref 200 }, { hash := PyData.keyHash P ("_law_read"), key := .str ("_law_read") 470, val := .ref 207 }, { hash := PyData.keyHash P ("law"), key := .str ("law") 476, val := .ref 212 }] 44 }),
  (27, { cls := .type "code", data := .fields #[.str ("__init__") 201, .str ("MillError.__init__") 202, .str ("/claim/cut.py") 203, .int 4 0, .int 2 0, .int 0 0, .int 0 0, .int 3 0, .ref 22, .bool true, .int 181 0, .ref 23, .none, .ref 24, .ref 25, .ref 26, .int 206 0, .int 4 0, .str ("/claim/cut.py") 207] }),
  (28, fnO fxI "__init__" "MillError.__init__" .none "outlinemill.errors" 187 27),
  (30, { cls := .type "dict", data := .dict #[{ hash := PyData.keyHash P ("__module__"), key := .str ("__module__") 196, val := .str ("outlinemill.errors") 187 }, { hash := PyData.keyHash P ("__firstlineno__"), key := .str ("__firstlineno__") 200, val := .int 2 199 }, { hash := PyData.keyHash P ("__init__"), key := .str ("__init__") 208, val := .ref 28 }, { hash := PyData.keyHash P ("__static_attributes__"), key := .str ("__static_attributes__") 210, val := .ref 29 }, { hash := PyData.keyHash P ("__weakref__"), key := .str ("__weakref__") 212, val := .ref 32 }, { hash := PyData.keyHash P ("__doc__"), key := .str ("__doc__") 213, val := .none }] 3 }),
  (31, { cls := .type "type", data := .cls { name := "MillError", bases := [.type "Exception"], mro := [.ref 31, .type "Exception", .type "BaseException", .type "object"], ns := 30, qualname := "MillError", subclasses := [.ref 44] }, slots := #[some (.ref 15), none, some (.str ("MillError") 189), some (.str ("MillError") 197), some (.builtin "Exception.__new__"), some (.bool true)] }),
  (43, { cls := .type "dict", data := .dict #[{ hash := PyData.keyHash P ("__module__"), key := .str ("__module__") 225, val := .str ("outlinemill.errors") 187 }, { hash := PyData.keyHash P ("__firstlineno__"), key := .str ("__firstlineno__") 229, val := .int 6 228 }, { hash := PyData.keyHash P ("__static_attributes__"), key := .str ("__static_attributes__") 230, val := .ref 42 }, { hash := PyData.keyHash P ("__doc__"), key := .str ("__doc__") 231, val := .none }] 2 }),
  (44, { cls := .type "type", data := .cls { name := "SheetFault", bases := [.ref 31], mro := [.ref 44, .ref 31, .type "Exception", .type "BaseException", .type "object"], ns := 43, qualname := "SheetFault" }, slots := #[some (.ref 35), none, some (.str ("SheetFault") 218), some (.str ("SheetFault") 226), some (.builtin "Exception.__new__"), some (.bool true)] }),
  (56, { cls := .type "code", data := .fields #[.str ("nearest") 246, .str ("nearest") 247, .str ("/claim/cut.py") 248, .int 10 0, .int 3 0, .int 0 0, .int 0 0, .int 3 0, .ref 51, .bool true, .int 181 0, .ref 52, .none, .ref 53, .ref 54, .ref 55, .int 254 0, .int 10 0, .str ("/claim/cut.py") 255] }),
  (57, fnO (fx 5) "nearest" "nearest" .none "outlinemill.filters" 234 56),
  (63, { cls := .type "code", data := .fields #[.str ("guess") 257, .str ("guess") 258, .str ("/claim/cut.py") 259, .int 18 0, .int 4 0, .int 0 0, .int 0 0, .int 3 0, .ref 58, .bool true, .int 181 0, .ref 59, .none, .ref 60, .ref 61, .ref 62, .int 264 0, .int 18 0, .str ("/claim/cut.py") 265] }),
  (64, fnO (fx 6) "guess" "guess" .none "outlinemill.filters" 234 63),
  (70, { cls := .type "code", data := .fields #[.str ("unfiltered") 267, .str ("unfiltered") 268, .str ("/claim/cut.py") 269, .int 30 0, .int 4 0, .int 0 0, .int 0 0, .int 3 0, .ref 65, .bool true, .int 181 0, .ref 66, .none, .ref 67, .ref 68, .ref 69, .int 279 0, .int 30 0, .str ("/claim/cut.py") 280] }),
  (71, fnO (fx 7) "unfiltered" "unfiltered" .none "outlinemill.filters" 234 70),
  (77, { cls := .type "code", data := .fields #[.str ("get32") 286, .str ("get32") 287, .str ("/claim/cut.py") 288, .int 39 0, .int 2 0, .int 0 0, .int 0 0, .int 3 0, .ref 72, .bool true, .int 181 0, .ref 73, .none, .ref 74, .ref 75, .ref 76, .int 291 0, .int 39 0, .str ("/claim/cut.py") 292] }),
  (78, fnO (fx 10) "get32" "get32" .none "outlinemill.octets" 282 77),
  (84, { cls := .type "code", data := .fields #[.str ("crc_steps") 294, .str ("crc_steps") 295, .str ("/claim/cut.py") 296, .int 43 0, .int 0 0, .int 0 0, .int 0 0, .int 3 0, .ref 79, .bool true, .int 181 0, .ref 80, .none, .ref 81, .ref 82, .ref 83, .int 301 0, .int 43 0, .str ("/claim/cut.py") 302] }),
  (85, fnO (fx 11) "crc_steps" "crc_steps" .none "outlinemill.octets" 282 84),
  (86, { cls := .type "tuple", data := .seq #[.int 0 304] }),
  (92, { cls := .type "code", data := .fields #[.str ("crc32") 305, .str ("crc32") 306, .str ("/claim/cut.py") 307, .int 51 0, .int 2 0, .int 0 0, .int 0 0, .int 3 0, .ref 87, .bool true, .int 181 0, .ref 88, .none, .ref 89, .ref 90, .ref 91, .int 312 0, .int 51 0, .str ("/claim/cut.py") 313] }),
  (93, fnO (fx 12) "crc32" "crc32" (.ref 86) "outlinemill.octets" 282 92),
  (94, { cls := .type "tuple", data := .seq #[.int 1 315] }),
  (100, { cls := .type "code", data := .fields #[.str ("adler32") 316, .str ("adler32") 317, .str ("/claim/cut.py") 318, .int 59 0, .int 2 0, .int 0 0, .int 0 0, .int 3 0, .ref 95, .bool true, .int 181 0, .ref 96, .none, .ref 97, .ref 98, .ref 99, .int 324 0, .int 59 0, .str ("/claim/cut.py") 325] }),
  (101, fnO (fx 13) "adler32" "adler32" (.ref 94) "outlinemill.octets" 282 100),
  (107, { cls := .type "code", data := .fields #[.str ("block_size") 327, .str ("block_size") 328, .str ("/claim/cut.py") 329, .int 65 0, .int 2 0, .int 0 0, .int 0 0, .int 3 0, .ref 102, .bool true, .int 181 0, .ref 103, .none, .ref 104, .ref 105, .ref 106, .int 333 0, .int 65 0, .str ("/claim/cut.py") 334] }),
  (108, fnO (fx 14) "block_size" "block_size" .none "outlinemill.octets" 282 107),
  (114, { cls := .type "code", data := .fields #[.str ("unstored") 336, .str ("unstored") 337, .str ("/claim/cut.py") 338, .int 74 0, .int 1 0, .int 0 0, .int 0 0, .int 3 0, .ref 109, .bool true, .int 181 0, .ref 110, .none, .ref 111, .ref 112, .ref 113, .int 344 0, .int 74 0, .str ("/claim/cut.py") 345] }),
  (115, fnO (fx 15) "unstored" "unstored" .none "outlinemill.octets" 282 114),
  (124, { cls := .type "code", data := .fields #[.str ("read_chunks") 361, .str ("read_chunks") 362, .str ("/claim/cut.py") 363, .int 89 0, .int 1 0, .int 0 0, .int 0 0, .int 3 0, .ref 121, .bool true, .int 181 0, .ref 122, .none, .none, .none, .ref 123, .int 364 0, .int 89 0, .str ("/claim/cut.py") 365] }),
  (125, fnO (fx 19) "read_chunks" "read_chunks" .none "outlinemill.picture" 347 124),
  (129, { cls := .type "code", data := .fields #[.str ("check_chunks") 367, .str ("check_chunks") 368, .str ("/claim/cut.py") 369, .int 103 0, .int 1 0, .int 0 0, .int 0 0, .int 3 0, .ref 126, .bool true, .int 181 0, .ref 127, .none, .none, .none, .ref 128, .int 370 0, .int 103 0, .str ("/claim/cut.py") 371] }),
  (130, fnO (fx 20) "check_chunks" "check_chunks" .none "outlinemill.picture" 347 129),
  (134, { cls := .type "code", data := .fields #[.str ("read_png") 373, .str ("read_png") 374, .str ("/claim/cut.py") 375, .int 111 0, .int 1 0, .int 0 0, .int 0 0, .int 3 0, .ref 131, .bool true, .int 181 0, .ref 132, .none, .none, .none, .ref 133, .int 376 0, .int 111 0, .str ("/claim/cut.py") 377] }),
  (135, fnO (fx 21) "read_png" "read_png" .none "outlinemill.picture" 347 134),
  (141, { cls := .type "code", data := .fields #[.str ("_law_pool") 381, .str ("_law_pool") 382, .str ("/claim/cut.py") 383, .int 126 0, .int 1 0, .int 0 0, .int 0 0, .int 3 0, .ref 136, .bool true, .int 181 0, .ref 137, .none, .ref 138, .ref 139, .ref 140, .int 387 0, .int 126 0, .str ("/claim/cut.py") 388] }),
  (142, fnO (fx 23) "_law_pool" "_law_pool" .none "law_on0237_01" 379 141),
  (148, { cls := .type "code", data := .fields #[.str ("_law_take") 390, .str ("_law_take") 391, .str ("/claim/cut.py") 392, .int 130 0, .int 2 0, .int 0 0, .int 0 0, .int 3 0, .ref 143, .bool true, .int 181 0, .ref 144, .none, .ref 145, .ref 146, .ref 147, .int 396 0, .int 130 0, .str ("/claim/cut.py") 397] }),
  (149, fnO (fx 24) "_law_take" "_law_take" .none "law_on0237_01" 379 148),
  (155, { cls := .type "code", data := .fields #[.str ("_law_one") 399, .str ("_law_one") 400, .str ("/claim/cut.py") 401, .int 137 0, .int 2 0, .int 0 0, .int 0 0, .int 3 0, .ref 150, .bool true, .int 181 0, .ref 151, .none, .ref 152, .ref 153, .ref 154, .int 404 0, .int 137 0, .str ("/claim/cut.py") 405] }),
  (156, fnO (fx 25) "_law_one" "_law_one" .none "law_on0237_01" 379 155),
  (160, { cls := .type "code", data := .fields #[.str ("_law_four") 407, .str ("_law_four") 408, .str ("/claim/cut.py") 409, .int 139 0, .int 1 0, .int 0 0, .int 0 0, .int 3 0, .ref 157, .bool true, .int 181 0, .ref 158, .none, .none, .none, .ref 159, .int 410 0, .int 139 0, .str ("/claim/cut.py") 411] }),
  (161, fnO (fx 26) "_law_four" "_law_four" .none "law_on0237_01" 379 160),
  (167, { cls := .type "code", data := .fields #[.str ("_law_check") 413, .str ("_law_check") 414, .str ("/claim/cut.py") 415, .int 141 0, .int 1 0, .int 0 0, .int 0 0, .int 3 0, .ref 162, .bool true, .int 181 0, .ref 163, .none, .ref 164, .ref 165, .ref 166, .int 421 0, .int 141 0, .str ("/claim/cut.py") 422] }),
  (168, fnO (fx 27) "_law_check" "_law_check" .none "law_on0237_01" 379 167),
  (172, { cls := .type "code", data := .fields #[.str ("_law_chunk") 424, .str ("_law_chunk") 425, .str ("/claim/cut.py") 426, .int 148 0, .int 2 0, .int 0 0, .int 0 0, .int 3 0, .ref 169, .bool true, .int 181 0, .ref 170, .none, .none, .none, .ref 171, .int 427 0, .int 148 0, .str ("/claim/cut.py") 428] }),
  (173, fnO (fx 28) "_law_chunk" "_law_chunk" .none "law_on0237_01" 379 172),
  (177, { cls := .type "code", data := .fields #[.str ("_law_stream") 430, .str ("_law_stream") 431, .str ("/claim/cut.py") 432, .int 151 0, .int 1 0, .int 0 0, .int 0 0, .int 3 0, .ref 174, .bool true, .int 181 0, .ref 175, .none, .none, .none, .ref 176, .int 433 0, .int 151 0, .str ("/claim/cut.py") 434] }),
  (178, fnO (fx 29) "_law_stream" "_law_stream" .none "law_on0237_01" 379 177),
  (182, { cls := .type "code", data := .fields #[.str ("_law_parted") 436, .str ("_law_parted") 437, .str ("/claim/cut.py") 438, .int 156 0, .int 2 0, .int 0 0, .int 0 0, .int 3 0, .ref 179, .bool true, .int 181 0, .ref 180, .none, .none, .none, .ref 181, .int 439 0, .int 156 0, .str ("/claim/cut.py") 440] }),
  (183, fnO (fx 30) "_law_parted" "_law_parted" .none "law_on0237_01" 379 182),
  (187, { cls := .type "code", data := .fields #[.str ("_law_lots") 442, .str ("_law_lots") 443, .str ("/claim/cut.py") 444, .int 159 0, .int 4 0, .int 0 0, .int 0 0, .int 3 0, .ref 184, .bool true, .int 181 0, .ref 185, .none, .none, .none, .ref 186, .int 445 0, .int 159 0, .str ("/claim/cut.py") 446] }),
  (188, fnO (fx 31) "_law_lots" "_law_lots" .none "law_on0237_01" 379 187),
  (194, { cls := .type "code", data := .fields #[.str ("_law_written") 448, .str ("_law_written") 449, .str ("/claim/cut.py") 450, .int 168 0, .int 1 0, .int 0 0, .int 0 0, .int 3 0, .ref 189, .bool true, .int 181 0, .ref 190, .none, .ref 191, .ref 192, .ref 193, .int 455 0, .int 168 0, .str ("/claim/cut.py") 456] }),
  (195, fnO (fx 32) "_law_written" "_law_written" .none "law_on0237_01" 379 194),
  (199, { cls := .type "code", data := .fields #[.str ("_law_turned") 458, .str ("_law_turned") 459, .str ("/claim/cut.py") 460, .int 173 0, .int 4 0, .int 0 0, .int 0 0, .int 3 0, .ref 196, .bool true, .int 181 0, .ref 197, .none, .none, .none, .ref 198, .int 461 0, .int 173 0, .str ("/claim/cut.py") 462] }),
  (200, fnO (fx 33) "_law_turned" "_law_turned" .none "law_on0237_01" 379 199),
  (206, { cls := .type "code", data := .fields #[.str ("_law_read") 464, .str ("_law_read") 465, .str ("/claim/cut.py") 466, .int 199 0, .int 1 0, .int 0 0, .int 0 0, .int 3 0, .ref 201, .bool true, .int 181 0, .ref 202, .none, .ref 203, .ref 204, .ref 205, .int 468 0, .int 199 0, .str ("/claim/cut.py") 469] }),
  (207, fnO (fx 34) "_law_read" "_law_read" .none "law_on0237_01" 379 206),
  (211, { cls := .type "code", data := .fields #[.str ("law") 471, .str ("law") 472, .str ("/claim/cut.py") 473, .int 204 0, .int 1 0, .int 0 0, .int 0 0, .int 3 0, .ref 208, .bool true, .int 181 0, .ref 209, .none, .none, .none, .ref 210, .int 474 0, .int 204 0, .str ("/claim/cut.py") 475] }),
  (212, fnO (fx 35) "law" "law" .none "law_on0237_01" 379 211)]
noncomputable def heapAs : List Addr := [3, 27, 28, 30, 31, 43, 44, 56, 57, 63, 64, 70, 71, 77, 78, 84, 85, 86, 92, 93, 94, 100, 101, 107, 108, 114, 115, 124, 125, 129, 130, 134, 135, 141, 142, 148, 149, 155, 156, 160, 161, 167, 168, 172, 173, 177, 178, 182, 183, 187, 188, 194, 195, 199, 200, 206, 207, 211, 212]

noncomputable def hookK : Hook := kHook heapK heapAs (fun _ => by rfl)
noncomputable def viewQ : Program := { pw with main := { pw.main with body := [1, 2, 4, 5, 6, 7, 9, 10, 11, 14, 15, 17, 18, 19, 20, 21, 23, 24, 25, 26, 27, 28, 29, 30, 31, 32, 33, 34, 35].filterMap fun i => pw.main.body[i]? } }
noncomputable def looseL : List Str := ["NONE", "SUB", "UP", "AVERAGE", "PAETH", "crc32", "adler32", "SIGN"]
noncomputable def lvL : List (Str × WData) := [("NONE", .int 0), ("SUB", .int 1), ("UP", .int 2), ("AVERAGE", .int 3), ("PAETH", .int 4), ("SIGN", .bytes [137, 80, 78, 71, 13, 10, 26, 10])]
noncomputable abbrev rowR : RowW := PySem.Challenge.rw_on0237_01.row.toRowW
noncomputable abbrev seenQ : Shared → Bool := fun s => xlAt viewQ lvL s && recOk (RowW.records rowR) s
theorem map_pair {σ α β : Type} {o : Option σ} {f : σ → α} {g : σ → β} {a : α} {b : β} (h1 : o.map f = some a) (h2 : o.map g = some b) : o.map (fun s => (f s, g s)) = some (a, b) := by
  cases o with
  | none => cases h1
  | some s => cases h1; cases h2; rfl
noncomputable abbrev ranQ (w : World) (b : Bool) (s₀ : Shared) := (topFrom treeTable rowR.prog (w.withFollow "special-get-raises" b) 3232 s₀).map (fun s => (openSeen viewQ looseL (importedModules rowR.prog.main.body) seenQ true s, hookK.obs s))
noncomputable abbrev wantQ (w : World) (b : Bool) := some (openGood viewQ looseL, hookK.val (w.withFollow "special-get-raises" b))
/- the library's quick twins of topRun, importEnds, fenceModules?, openSeen, start, treeTable: half the kernel's time and memory -/
set_option maxHeartbeats 0 in
theorem ran_false : ∀ w : World, (fencedOpening treeTable rowR.prog w 3232).map (ranQ w false) = some (wantQ w false) := fun w => by
  unfold ranQ fencedOpening topFrom
  rw [Fast.te14082659384304107361, Fast.te10274390034422433532, Fast.te14289696077712309145, Fast.te4187177175401517315, Fast.te1435165496053646825, Fast.te14364793385576792824]
  kernel_rfl
set_option maxHeartbeats 0 in
theorem ran_true : ∀ w : World, (fencedOpening treeTable rowR.prog w 3232).map (ranQ w true) = some (wantQ w true) := fun w => by
  unfold ranQ fencedOpening topFrom
  rw [Fast.te14082659384304107361, Fast.te10274390034422433532, Fast.te14289696077712309145, Fast.te4187177175401517315, Fast.te1435165496053646825, Fast.te14364793385576792824]
  kernel_rfl
theorem leftQ : LeftO rowR.prog viewQ looseL seenQ hookK.obs hookK.val 3232 :=
  LeftO.of_split "special-get-raises" fun w => map_pair (ran_false w) (ran_true w)
/-! C2 -/
theorem ba_owner : Manifest.owners.lookup (String.ofList ['y', 'a', 'r', 'r', 'a', 'e', 't', 'y', 'b'].reverse) = some Manifest.sig_bytearray := by kernel_rfl
theorem ba_plain : PlainAttrs "bytearray" :=
  ⟨⟨"bytearray.__getattribute__", by rw [typeLookup_type, builtinLookup_eq_fast]; kernel_rfl, by decide +kernel⟩, by rw [typeLookup_type, builtinLookup_eq_fast]; kernel_rfl⟩
theorem ba_slot_append : Slot "bytearray" "append" "bytearray.append" :=
  .of (owner := "bytearray") (n := "append") (by rw [typeLookup_type, builtinLookup_eq_fast]; kernel_rfl) (by decide +kernel) (by decide +kernel) (by decide +kernel)
    (by first | exact .inl (by decide +kernel) | exact .inr (by decide +kernel)) (by rw [isSubtype_type]; kernel_rfl)
theorem ba_type_append : typeOf (.builtin "bytearray.append") = pure (.type "method_descriptor") := by show builtinType _ = _; rw [builtinType_eq_fast]; kernel_rfl
theorem ba_entry_append : entryFor table "bytearray.append" = some Builtin.«bytearray.append» := entryFor_of_tree (by kernel_rfl)
theorem ba_args_append (a b : Value) : argsOk "bytearray.append" ⟨[a, b], []⟩ := by
  unfold argsOk; rw [signature?_of (id := "bytearray.append") (n := ['d', 'n', 'e', 'p', 'p', 'a']) (o := ['y', 'a', 'r', 'r', 'a', 'e', 't', 'y', 'b']) (by kernel_rfl) ba_owner]; kernel_rfl
theorem ba_slot_extend : Slot "bytearray" "extend" "bytearray.extend" :=
  .of (owner := "bytearray") (n := "extend") (by rw [typeLookup_type, builtinLookup_eq_fast]; kernel_rfl) (by decide +kernel) (by decide +kernel) (by decide +kernel)
    (by first | exact .inl (by decide +kernel) | exact .inr (by decide +kernel)) (by rw [isSubtype_type]; kernel_rfl)
theorem ba_type_extend : typeOf (.builtin "bytearray.extend") = pure (.type "method_descriptor") := by show builtinType _ = _; rw [builtinType_eq_fast]; kernel_rfl
theorem ba_entry_extend : entryFor table "bytearray.extend" = some Builtin.«bytearray.extend» := entryFor_of_tree (by kernel_rfl)
theorem ba_args_extend (a b : Value) : argsOk "bytearray.extend" ⟨[a, b], []⟩ := by
  unfold argsOk; rw [signature?_of (id := "bytearray.extend") (n := ['d', 'n', 'e', 't', 'x', 'e']) (o := ['y', 'a', 'r', 'r', 'a', 'e', 't', 'y', 'b']) (by kernel_rfl) ba_owner]; kernel_rfl
theorem ba_slot_init : Slot "bytearray" "__init__" "bytearray.__init__" :=
  .of (owner := "bytearray") (n := "__init__") (by rw [typeLookup_type, builtinLookup_eq_fast]; kernel_rfl) (by decide +kernel) (by decide +kernel) (by decide +kernel)
    (by first | exact .inl (by decide +kernel) | exact .inr (by decide +kernel)) (by rw [isSubtype_type]; kernel_rfl)
theorem ba_entry_init : entryFor table "bytearray.__init__" = some Builtin.«bytearray.__init__» := entryFor_of_tree (by kernel_rfl)
theorem ba_args_init (a : Value) : argsOk "bytearray.__init__" ⟨[a], []⟩ := by
  unfold argsOk; rw [signature?_of (id := "bytearray.__init__") (n := ['_', '_', 't', 'i', 'n', 'i', '_', '_']) (o := ['y', 'a', 'r', 'r', 'a', 'e', 't', 'y', 'b']) (by kernel_rfl) ba_owner]; kernel_rfl
theorem ba_mro : mroOf (.type "bytearray") = pure [.type "bytearray", .type "object"] := by rw [mroOf_type]; kernel_rfl
theorem ba_lookup_new : typeLookup (.type "bytearray") "__new__" = pure (some (.builtin "bytearray.__new__")) := by rw [typeLookup_type, builtinLookup_eq_fast]; kernel_rfl
theorem ba_called : TypeCalled "bytearray" "bytearray.__new__" "bytearray.__init__" :=
  ⟨by decide +kernel, by decide +kernel, ⟨_, _, ba_mro⟩, madeBy_type ba_mro ba_lookup_new (by decide +kernel), by decide +kernel, by rw [isSubtype_type]; kernel_rfl, ba_slot_init⟩
theorem ba_typeCall : checkTypeCall "bytearray" ⟨[], []⟩ = pure () := by kernel_rfl
theorem ba_newCall : checkBuiltinCall "bytearray.__new__" ⟨[.type "bytearray"], []⟩ = pure () := by kernel_rfl
theorem ba_entry_new : entryFor table "bytearray.__new__" = some Builtin.«list.__new__» := by
  first
    | exact entryFor_alias (id' := "list.__new__") (by kernel_rfl) rfl (by decide +kernel) (by kernel_rfl)
    | exact entryFor_of_tree (by kernel_rfl)
theorem ba_plain_new : plainId "bytearray.__new__" = true := by decide +kernel
theorem ba_no_release : typeLookup (.type "bytearray") "__release_buffer__" = pure (some (.builtin "bytearray.__release_buffer__")) := by rw [typeLookup_type, builtinLookup_eq_fast]; kernel_rfl
theorem ba_sub : isSubtype (.type "bytearray") (.type "bytearray") = pure true := by rw [isSubtype_type]; kernel_rfl
/-! C3 -/
theorem buffer_eqF {b : Array UInt8} {t : Tok} {id : String} {full : Bool} : Builtin.Bytes.buffer? id (.bytes b t) full = pure (some b) := by
  unfold Builtin.Bytes.buffer?
  rw [KBy.special_eq KBy.look_buffer, KBy.own_buffer, KBy.own_release]
  kernel_rfl
section
variable {M : Model} {w : World} {A : Around} {E : Value → Shared → Prop} {s : Shared}

theorem wp_baWrite {a : Addr} {o : Obj} {b : Array UInt8} {n : Nat} {f : Array UInt8 → Array UInt8} {Q : Unit → Shared → Prop} (ho : s.heap.get? a = some o) (hd : o.data = .bytearray b n) (hz : (f b).size ≤ 16777216)
    (hQ : ∀ h' o', h'.get? a = some o' → o'.cls = o.cls → o'.dict = o.dict → o'.data = .bytearray (f b) n → Heap.SameBut a s.heap h' → Q () { s with heap := h' }) :
    wpAny M A (Builtin.Bytes.write (.ref a) f) Q E s := by
  obtain ⟨c, d, dt, sl⟩ := o
  simp only at hd; subst hd
  show wpAny _ _ (updateBytearray a f) _ _ _
  unfold updateBytearray
  refine wpAny_bind (wpAny_load ho ?_)
  show wpAny _ _ (update a (Obj.mapBytearray f) >>= fun _ => lookBehind a) _ _ _
  refine wpAny_bind (wpAny_update ho ?_)
  have h2 : (s.heap.update a (Obj.mapBytearray f)).get? a = some ⟨c, d, .bytearray (f b) n, sl⟩ := Heap.get?_update_self (Obj.mapBytearray f) ho rfl
  refine wpAny_lookBehind h2 ?_ (hQ _ _ h2 rfl rfl rfl (Heap.SameBut.update ..))
  show (if (f b).size > sizeLine then some "bytearray:memory" else none) = none
  rw [if_neg (by rw [sizeLine_eq]; (exact Nat.not_lt.mpr hz))]

theorem wpC.held {a : Addr} {o : Obj} {b : Array UInt8} {Q : Bool → Shared → Prop} (ho : s.heap.get? a = some o) (hd : o.data = .bytearray b 0) (hQ : Q false s) :
    wpC M A (Builtin.Bytes.exported (.ref a) <||> (do return (← Builtin.Bytes.exportsOf (.ref a)) > 0)) Q E s := by
  refine .bind (.exported ?_)
  show wpC M A (do let n ← Builtin.Bytes.exportsOf (.ref a); pure (decide (n > 0))) Q E s
  refine .of (wpAny_bind ?_)
  show wpAny M A (do match (← load a).data with
    | .bytearray _ n => pure n
    | _ => pure 0) _ _ _
  refine wpAny_bind (wpAny_load ho ?_)
  rw [hd]
  exact wpAny_pure (wpAny_pure hQ)
theorem wpC.checkResize {a : Addr} {o : Obj} {b : Array UInt8} {Q : Unit → Shared → Prop} (ho : s.heap.get? a = some o) (hd : o.data = .bytearray b 0) (hQ : Q () s) :
    wpC M A (Builtin.Bytes.checkResize (.ref a)) Q E s := by
  unfold Builtin.Bytes.checkResize
  exact .bind (.held ho hd (.done hQ))

/-- a built-in method, on a clean stack -/
theorem wpC.callEntry {T : String} {name : Str} {id : String} {b : Builtin} {self : Value} {rest : List Value} {Q : Value → Shared → Prop} (hn : noHold (.builtin id ⟨self :: rest, []⟩) = true) (h : Slot T name id) (hT : s.TypeIs self T) (hb : entryFor table id = some b)
    (hc : wpC (model pw w) A.in1 (b ⟨self :: rest, []⟩) (fun fin s' => ∃ v, fin = .done (.ret v) ∧ Q v s') E s) (ha : argsOk id ⟨self :: rest, []⟩) :
    wpC (model pw w) A (PySem.call (.builtin id) (self :: rest)) Q E s := by
  refine .call (.ofTree rfl ?_)
  show wpC _ A.in1 (do checkBuiltinCall id ⟨self :: rest, []⟩; again (.builtin id ⟨self :: rest, []⟩)) _ _ s
  refine .step (h.check _ _ _ _ _ _ _ _ hT ha (.done ⟨plainId_quiet h.plain _, .ofTree hn ?_⟩))
  rw [Around.under_plainId h.plain]
  show wpC _ _ (match entryFor table id with | some b => b ⟨self :: rest, []⟩ | none => unsupported ((withoutEnding? id "#data").getD id)) _ _ s
  rw [hb]
  refine hc.monoQ fun fin s' h' => ?_
  obtain ⟨v, rfl, hv⟩ := h'; exact hv

theorem wpC.append {a : Addr} {o : Obj} {b : Array UInt8} {i : Int} {t : Tok} {Q : Value → Shared → Prop} (ho : s.heap.get? a = some o) (hc : o.cls = .type "bytearray") (hd : o.data = .bytearray b 0) (h0 : 0 ≤ i) (h1 : i < 256) (hz : b.size < 16777216)
    (hQ : ∀ h' o', h'.get? a = some o' → o'.cls = o.cls → o'.dict = o.dict → o'.data = .bytearray (b.push i.toNat.toUInt8) 0 → Heap.SameBut a s.heap h' → Q .none { s with heap := h' }) :
    wpC (model pw w) A (PySem.call (.builtin "bytearray.append") [.ref a, .int i t]) Q E s := by
  refine .callEntry (noHold_id (by decide +kernel)) ba_slot_append ⟨o, ho, hc⟩ ba_entry_append ?_ (ba_args_append _ _)
  show wpC _ _ (do let c ← Builtin.Bytes.byteValue (.int i t); Builtin.Bytes.checkResize (.ref a); Builtin.Bytes.write (.ref a) (·.push c); ret .none) _ _ _
  refine .step ?_
  unfold Builtin.Bytes.byteValue
  refine wpAny_bind (wpAny_of_eq (rfl : asIndex (.int i t) = pure i) ?_)
  have hif : (decide (i < 0) || decide (i ≥ 256)) = false := by simp only [Bool.or_eq_false_iff, decide_eq_false_iff_not]; (exact ob27 h1 h0)
  show wpAny _ _ (if (decide (i < 0) || decide (i ≥ 256)) = true then _ else _) _ _ _
  rw [hif]
  refine wpAny_pure (.bind (.checkResize ho hd (.step (wp_baWrite ho hd ?_ fun h' o' e1 e2 e3 e4 e5 => .done ⟨_, rfl, hQ h' o' e1 e2 e3 e4 e5⟩))))
  rw [Array.size_push]; (exact hz)

theorem wpC.extend {a : Addr} {o : Obj} {b c : Array UInt8} {t : Tok} {Q : Value → Shared → Prop} (ho : s.heap.get? a = some o) (hc : o.cls = .type "bytearray") (hd : o.data = .bytearray b 0) (hz : b.size + c.size ≤ 16777216)
    (hQ : ∀ h' o', h'.get? a = some o' → o'.cls = o.cls → o'.dict = o.dict → o'.data = .bytearray (b ++ c) 0 → Heap.SameBut a s.heap h' → Q .none { s with heap := h' }) :
    wpC (model pw w) A (PySem.call (.builtin "bytearray.extend") [.ref a, .bytes c t]) Q E s := by
  refine .callEntry (noHold_id (by decide +kernel)) ba_slot_extend ⟨o, ho, hc⟩ ba_entry_extend ?_ (ba_args_extend _ _)
  have e1 : specialOf (.bytes c t) "__buffer__" = pure (some (.builtin "bytes.__buffer__")) := KBy.special_eq KBy.look_buffer
  have e2 : Builtin.Bytes.takeBufferQuiet? "bytearray.extend" (.bytes c t) 0 = pure (some (c, none)) := by
    unfold Builtin.Bytes.takeBufferQuiet? Builtin.Bytes.takeBuffer?
    rw [KBy.special_eq KBy.look_buffer, KBy.own_buffer]
    show (do match ← (do return (← Builtin.Bytes.buffer? "bytearray.extend" (.bytes c t) (full := (0 : Int) == Builtin.Bytes.fullReadOnly)).map (·, (none : Option Value)) : Sem (Option (Array UInt8 × Option Value))).attempt with
      | .ok r => pure r
      | .error _ => rule "memoryview.buffer.refusal-replaced"; pure none) = _
    rw [buffer_eqF]
    rfl
  unfold Builtin.«bytearray.extend»
  refine .step (wpAny_of_eq (a := (.ref a, .bytes c t)) rfl ?_)
  refine .step (wpAny_of_eq e1 ?_)
  show wpC _ _ (do rule "bytearray.extend.bytes-like"; _) _ _ _
  refine .step (wpAny_rule (.step ?_))
  unfold Builtin.Bytes.payload Builtin.Bytes.payload?
  refine wpAny_bind (wpAny_bind (wpAny_load ho ?_))
  rw [hd]
  refine wpAny_pure (wpAny_pure (.step (wpAny_of_eq e2 ?_)))
  show wpC _ _ (do if !c.isEmpty then Builtin.Bytes.checkResize (.ref a)
                   Builtin.Bytes.write (.ref a) (· ++ c)
                   ret .none) _ _ _
  have fin : wpC (model pw w) A.in1 (do Builtin.Bytes.write (.ref a) (· ++ c); ret .none) (fun fin s' => ∃ v, fin = .done (.ret v) ∧ Q v s') E s :=
    .step (wp_baWrite ho hd (by rw [Array.size_append]; exact hz) fun h' o' e1 e2 e3 e4 e5 => .done ⟨_, rfl, hQ h' o' e1 e2 e3 e4 e5⟩)
  cases c.isEmpty with
  | true => exact fin
  | false => exact .bind (.checkResize ho hd fin)

end
/-! C4 -/
theorem codeC.builtin {w : World} {A : Around} {s : Shared} {id : String} {args : Args} {b : Builtin} {R : Result → Shared → Prop} (hn : noHold (.builtin id args) = true) (hb : entryFor table id = some b)
    (h : wpC (model pw w) (A.under (.builtin id args)) (b args) (fun fin s' => match fin with | .done f => R (.ok f) s' | .again c' => c'.quiet = true ∧ codeC (model pw w) A c' R s') (fun e s' => R (.error e) s') s) : codeC (model pw w) A (.builtin id args) R s := .ofTree hn (by
  show wpC _ _ (match entryFor table id with | some b => b args | none => unsupported ((withoutEnding? id "#data").getD id)) _ _ s
  rw [hb]; exact h)
section
variable {M : Model} {w : World} {A : Around} {E : Value → Shared → Prop} {s : Shared}
theorem ba_bind : Builtin.Bytes.bindOptional "bytearray.__init__" "bytearray" ["source", "encoding", "errors"] [] [] = pure [none, none, none] := by kernel_rfl
theorem ba_released {a : Addr} {o : Obj} {Q : Bool → Shared → Prop} (ho : s.heap.get? a = some o) (hc : o.cls = .type "bytearray") (hQ : Q false s) : wpAny M A (Builtin.Bytes.ownRelease (.ref a)) Q E s := by
  have hT : s.TypeIs (.ref a) "bytearray" := ⟨o, ho, hc⟩
  unfold Builtin.Bytes.ownRelease
  refine wpAny_bind ?_
  unfold Builtin.Bytes.slotIsOwn
  refine wpAny_bind (wpAny_specialOf hT ba_no_release ?_)
  have h1 : "bytearray.__release_buffer__".endsWith ("." ++ "__release_buffer__") = true := by decide +kernel
  have h2 : "bytearray.__release_buffer__".dropRight ("__release_buffer__".length + 1) = "bytearray" := by decide +kernel
  dsimp only
  rw [h1, h2]
  refine wpAny_isInstance hT ba_sub ?_
  exact wpAny_pure hQ
theorem wpC.init {a : Addr} {o : Obj} {b : Array UInt8} {Q : Value → Shared → Prop} (ho : s.heap.get? a = some o) (hc : o.cls = .type "bytearray") (hd : o.data = .bytearray b 0)
    (hQ : ∀ h' o', h'.get? a = some o' → o'.cls = o.cls → o'.dict = o.dict → o'.data = .bytearray #[] 0 → Heap.SameBut a s.heap h' → Q .none { s with heap := h' }) :
    wpC (model pw w) A (PySem.call (.builtin "bytearray.__init__") [.ref a]) Q E s := by
  refine .callEntry (noHold_id (by decide +kernel)) ba_slot_init ⟨o, ho, hc⟩ ba_entry_init ?_ (ba_args_init _)
  unfold Builtin.«bytearray.__init__»
  refine .step (ba_released ho hc ?_)
  show wpC _ _ (Builtin.Bytes.bindOptional "bytearray.__init__" "bytearray" ["source", "encoding", "errors"] [] [] >>= _) _ _ _
  rw [ba_bind]
  show wpC _ _ (do
    if ← Builtin.Bytes.exported (.ref a) <||> (do return (← Builtin.Bytes.exportsOf (.ref a)) > 0) then
      if !(← Builtin.Bytes.payload (.ref a)).isEmpty then Builtin.Bytes.checkResize (.ref a)
      unsupported "bytearray.__init__:exported"
    Builtin.Bytes.write (.ref a) fun _ => #[]
    ret .none) _ _ _
  refine .bind (.held ho hd ?_)
  exact .step (wp_baWrite ho hd (Nat.zero_le _) fun h' o' e1 e2 e3 e4 e5 => .done ⟨_, rfl, hQ h' o' e1 e2 e3 e4 e5⟩)
theorem ba_new {Q₁ : Value → Shared → Prop}
    (h : Q₁ (.ref s.heap.objs.size) { s with heap := s.heap.push { cls := .type "bytearray", data := .bytearray #[] } }) :
    codeAny (model pw w) A (.call (.builtin "bytearray.__new__") ⟨[.type "bytearray"], []⟩) (wants Q₁ E) s := by
  refine codeAny_of_tree ?_
  show wpAny _ A.in1 (do checkBuiltinCall "bytearray.__new__" ⟨[.type "bytearray"], []⟩; again (.builtin "bytearray.__new__" ⟨[.type "bytearray"], []⟩)) _ _ s
  refine wpAny_bind (wpAny_of_eq ba_newCall (wpAny_pure ⟨plainId_quiet ba_plain_new _, codeAny_builtin_stack ba_entry_new rfl fun p st => ?_⟩))
  rw [Around.under_plainId ba_plain_new _]
  have hsub := ba_sub
  have hown : ("bytearray.__new__".splitOn ".__new__").headD "" = "bytearray" := by rw [split_bytearray]; rfl
  obtain ⟨hp, g, d, tk, os⟩ := s
  simp only [hown]
  wp_walk
  exact h
theorem wpC.new {Q : Value → Shared → Prop}
    (hQ : ∀ h' o', h'.get? s.heap.objs.size = some o' → o'.cls = .type "bytearray" → o'.dict = Option.none → o'.data = .bytearray #[] 0 → (∀ b o, s.heap.get? b = some o → h'.get? b = some o) → Q (.ref s.heap.objs.size) { s with heap := h' }) :
    wpC (model pw w) A (PySem.call (.type "bytearray") []) Q E s := by
  refine .call (.ofTree rfl ?_)
  show wpC _ _ (callAny (.type "bytearray") _) _ _ _
  refine .done ⟨Code.quiet_builtin _ (by decide +kernel), .builtin (noHold_id (by decide +kernel)) F.entry_type_call ?_⟩
  rw [Around.under_plain (weight_type_call_type "bytearray" [] []) rfl]
  unfold Builtin.«type.__call__»
  have h1 := ba_called.notType
  have h2 := ba_called.canCreate
  simp only [h1, h2, ba_typeCall, ba_mro, ba_called.made, pure_bind, Bool.false_eq_true, if_false, List.isEmpty_cons]
  refine .bind (.holding (.of (wpAny_call (codeAny_mono (ba_new (E := E) (Q₁ := fun v s1 => v = .ref s.heap.objs.size ∧ s1 = { s with heap := s.heap.push { cls := .type "bytearray", data := .bytearray #[] } }) ⟨rfl, rfl⟩) fun r s1 hr => ?_))))
  cases r with
  | error e => exact hr
  | ok fl =>
    cases fl with
    | ret v =>
      obtain ⟨rfl, rfl⟩ := hr
      have ho := Heap.get?_push_size s.heap (o := { cls := .type "bytearray", data := .bytearray #[] }) rfl
      have hT : ({ s with heap := s.heap.push { cls := .type "bytearray", data := .bytearray #[] } } : Shared).TypeIs (.ref s.heap.objs.size) "bytearray" := ⟨_, ho, rfl⟩
      refine .step (wpAny_isInstance hT ba_sub ?_)
      show wpC _ _ (PySem.holding [.ref s.heap.objs.size] (callSpecial? (.ref s.heap.objs.size) (Str.ofString "__init__")) >>= _) _ _ _
      refine .bind (.holding ?_)
      simp only [callSpecial?]
      refine .step (wpAny_specialOf hT ba_slot_init.lookup ?_)
      simp only [ba_slot_init.bind]
      refine .holding (.bind (.done (.bind ((wpC.init ho rfl rfl fun h' o' e1 e2 e3 e4 e5 => ?_ : wpC _ _ (PySem.call (.builtin "bytearray.__init__") [.ref s.heap.objs.size]) _ _ _)))))
      refine .done (.done ?_)
      exact hQ h' o' e1 e2 e3 e4 fun b o hb => e5.extBut b o (Nat.ne_of_lt (Heap.lt_size hb)) (Heap.get?_push_of_some _ hb)
    | _ => exact hr.elim
end
/-! C5 -/
noncomputable def EvC (B : Bs) (a : Act) (Δ : DE) (μ : List MO) (e : Expr) (K : D → List MO → Prop) : Prop :=
  ActOk B a → ∀ C ρ s, St B a Δ C ρ μ s → ∀ Q E, Nx B a Δ C ρ K Q → FltOk B (sfC B) a C E → wpC (model pw B.w) a.A (eval e a.env) Q E s
noncomputable def Ex1C (B : Bs) (a : Act) (Δ : DE) (μ : List MO) (st : Stmt) (Kn : DE → List MO → Prop) (Kr : D → List MO → Prop) : Prop :=
  ActOk B a → ∀ C ρ s, St B a Δ C ρ μ s → ∀ Q E,
    (∀ Δ' C' ρ' μ' s', Kn Δ' μ' → C.le C' → ρ <+: ρ' → St B a Δ' C' ρ' μ' s' → Q .next s') →
    (∀ v d Δ' C' ρ' μ' s', Kr d μ' → C.le C' → ρ <+: ρ' → St B a Δ' C' ρ' μ' s' → VRd C' ρ' v d → Q (.ret v) s') →
    FltOk B (sfC B) a C E → wpC (model pw B.w) a.A (exec st a.env) Q E s
noncomputable def ExC (B : Bs) (a : Act) (Δ : DE) (μ : List MO) (ss : List Stmt) (Kn : DE → List MO → Prop) (Kr : D → List MO → Prop) : Prop :=
  ActOk B a → ∀ C ρ s, St B a Δ C ρ μ s → ∀ Q E,
    (∀ Δ' C' ρ' μ' s', Kn Δ' μ' → C.le C' → ρ <+: ρ' → St B a Δ' C' ρ' μ' s' → Q .next s') →
    (∀ v d Δ' C' ρ' μ' s', Kr d μ' → C.le C' → ρ <+: ρ' → St B a Δ' C' ρ' μ' s' → VRd C' ρ' v d → Q (.ret v) s') →
    FltOk B (sfC B) a C E → wpC (model pw B.w) a.A (execs ss a.env) Q E s

section
variable {B : Bs} {a : Act} {Δ : DE} {μ : List MO} {K : D → List MO → Prop} {Kn : DE → List MO → Prop} {Kr : D → List MO → Prop} {pos p : Pos}
theorem EvC.of {e : Expr} (h : Ev B a Δ μ e K) : EvC B a Δ μ e K := fun ok C ρ s S Q E hQ hE => .of (h ok C ρ s S Q E hQ hE)
theorem Ex1C.of {st : Stmt} (h : Ex1 B a Δ μ st Kn Kr) : Ex1C B a Δ μ st Kn Kr := fun ok C ρ s S Q E hn hr hE => .of (h ok C ρ s S Q E hn hr hE)
theorem ExC.of {ss : List Stmt} (h : Ex B a Δ μ ss Kn Kr) : ExC B a Δ μ ss Kn Kr := fun ok C ρ s S Q E hn hr hE => .of (h ok C ρ s S Q E hn hr hE)
theorem ExC.nil (h : Kn Δ μ) : ExC B a Δ μ [] Kn Kr := .of (.nil h)
theorem ExC.cons {st : Stmt} {ss : List Stmt} (h : Ex1C B a Δ μ st (fun Δ1 μ1 => ExC B a Δ1 μ1 ss Kn Kr) Kr) : ExC B a Δ μ (st :: ss) Kn Kr := fun ok C ρ s S Q E hn hr hE => by
  rw [execs_cons]
  refine .bind (h ok C ρ s S _ E (fun Δ1 C1 ρ1 μ1 s1 k1 c1 p1 S1 => ?_) (fun v d Δ1 C1 ρ1 μ1 s1 k1 c1 p1 S1 r1 => ?_) hE)
  · exact k1 ok C1 ρ1 s1 S1 Q E (fun Δ' C' ρ' μ' s' k c p => hn Δ' C' ρ' μ' s' k (c1.trans c) (p1.trans p)) (fun v d Δ' C' ρ' μ' s' k c p => hr v d Δ' C' ρ' μ' s' k (c1.trans c) (p1.trans p)) (hE.mono c1)
  · exact .done (hr v d Δ1 C1 ρ1 μ1 s1 k1 c1 p1 S1 r1)
/-- a plain statement ahead of others -/
theorem ExC.step {st : Stmt} {ss : List Stmt} (h : Ex1 B a Δ μ st (fun Δ1 μ1 => ExC B a Δ1 μ1 ss Kn Kr) Kr) : ExC B a Δ μ (st :: ss) Kn Kr := .cons (.of h)
theorem ExC.weak {Δ' : DE} {ss : List Stmt} (h : ExC B a Δ' μ ss Kn Kr) (w : ∀ x d, Δ'.lookup x = some d → Δ.lookup x = some d) : ExC B a Δ μ ss Kn Kr := fun ok C ρ s S Q E h1 h2 hE => h ok C ρ s (S.weak w) Q E h1 h2 hE
theorem ExC.mono {Kn' : DE → List MO → Prop} {Kr' : D → List MO → Prop} {ss : List Stmt} (h : ExC B a Δ μ ss Kn' Kr') (hn : ∀ Δ μ, Kn' Δ μ → Kn Δ μ) (hr : ∀ d μ, Kr' d μ → Kr d μ) : ExC B a Δ μ ss Kn Kr := fun ok C ρ s S Q E h1 h2 hE =>
  h ok C ρ s S Q E (fun Δ' C' ρ' μ' s' k => h1 _ _ _ _ _ (hn _ _ k)) (fun v d Δ' C' ρ' μ' s' k => h2 _ _ _ _ _ _ _ (hr _ _ k)) hE
theorem Ex1C.assign {x : Str} {e : Expr} (h : EvC B a Δ μ e fun d μ1 => Kn ((x, d) :: Δ) μ1) (hx : StoreOk a x) (hs : swapsWith e (some (.Name x p)) pos.line a.env = pure false := by rfl) : Ex1C B a Δ μ (.Assign [.Name x p] e pos) Kn Kr := fun ok C ρ s S Q E hn hr hE => by
  rw [exec_Assign_Name _ _ _ _ _ hs]
  refine .step (wpAny_standAt (.bind (h ok C ρ s S _ E (fun v d C1 ρ1 μ1 s1 k1 c1 p1 S1 r1 => ?_) hE)))
  exact .step (wpAny_standAt (.step (wpAny_bindName (wp_store ok S1 hx r1 fun s2 S2 => .done (hn _ _ _ _ _ k1 c1 p1 S2)))))
theorem Ex1C.expr {e : Expr} (h : EvC B a Δ μ e fun _ μ1 => Kn Δ μ1) (hi : interactive a.env = false := by rfl) (hs : swapsWith e none pos.line a.env = pure false := by rfl) : Ex1C B a Δ μ (.Expr e pos) Kn Kr := fun ok C ρ s S Q E hn hr hE => by
  rw [exec_Expr a.env e pos hi hs]
  exact .step (wpAny_standAt (.bind (h ok C ρ s S _ E (fun v d C1 ρ1 μ1 s1 k1 c1 p1 S1 r1 => .of (wpAny_dropValue (hn Δ C1 ρ1 μ1 s1 k1 c1 p1 S1))) hE)))
theorem Ex1C.ret {e : Expr} (h : EvC B a Δ μ e Kr) : Ex1C B a Δ μ (.Return (some e) pos) Kn Kr := fun ok C ρ s S Q E hn hr hE => by
  rw [exec_Return_some]
  exact .step (wpAny_standAt (.bind (h ok C ρ s S _ E (fun v d C1 ρ1 μ1 s1 k1 c1 p1 S1 r1 => .done (hr v d Δ C1 ρ1 μ1 s1 k1 c1 p1 S1 r1)) hE)))
end

/-! calls -/
section
variable {M : Model} {A : Around} {E : Value → Shared → Prop} {s : Shared}
theorem wpC.keep {α : Type} {vs : List Value} {m : Sem α} {Q : α → Shared → Prop} (h : wpC M A m Q E s) : wpC M A (m.keep vs) Q E s :=
  fun Γ p i n c => by rw [Sem.wp_keep]; exact h Γ p i n c
theorem wpC.tail {t : Sem Value} {Q : Value → Shared → Prop} (h : wpC M A t Q E s) : wpC M A (t >>= fun r => PySem.holding [r] point >>= fun _ => Pure.pure r) Q E s :=
  .bind (h.monoQ fun r s2 hr => .bind (.holding (.of (wpAny_point (.done hr)))))
theorem wpC.callFn {pos : Pos} {a : Addr} {o : Obj} {fd : FuncData} {args : List (Bool × Sem Value)} {Q : Value → Shared → Prop}
    (h : wpAny M A (evalArgs (.ref a) true args []) (fun x s₁ => (s₁.heap.get? a = some o ∧ o.data = .func fd) ∧ wpC M A (PySem.call (.ref a) ([] ++ x.pos) x.kw) Q E s₁) E s) :
    wpC M A (callWith pos (.ref a) [] args []) Q E s := by
  unfold callWith
  refine .step (wpAny_holding (wpAny_mono h (fun x s₁ h₁ => .step (wpAny_standAt ?_)) fun _ _ x => x))
  have hk : ∀ {Q}, Q Keeper.frame s₁ → wpAny M A (keeperOf (.ref a)) Q E s₁ := fun q => by unfold keeperOf; refine wpAny_bind (wpAny_load h₁.1.1 ?_); rw [h₁.1.2]; exact wpAny_pure q
  dsimp only
  generalize (args.any (·.1) || List.any [] _) = q
  refine .step (hk ?_)
  cases q
  · refine dite (args.length + 2 * ([] : List (Option Str × Sem Value)).length > 30) (fun c => ?_) fun c => ?_
    · dsimp only; rw [if_pos c]; exact .tail h₁.2
    · dsimp only; rw [if_neg c]; exact .tail (by unfold callMarked; exact .keep h₁.2)
  · exact .tail (by unfold callMarked; exact .keep h₁.2)
theorem wpC.callBi {pos : Pos} {id : String} {first : List Value} {args : List (Bool × Sem Value)} {Q : Value → Shared → Prop} (hplain : args.any (·.1) = false)
    (h : wpAny M A (evalArgs (.builtin id) true args []) (fun a s₁ => wpC M A (PySem.call (.builtin id) (first ++ a.pos) a.kw) Q E s₁) E s) :
    wpC M A (callWith pos (.builtin id) first args []) Q E s := by
  unfold callWith
  refine .step (wpAny_holding (wpAny_mono h (fun a s₁ h₁ => .step (wpAny_standAt ?_)) fun _ _ x => x))
  dsimp only
  rw [hplain]
  exact .step (wpAny_pure (.tail h₁))
theorem wpC.callTy {pos : Pos} {T : String} {first : List Value} {args : List (Bool × Sem Value)} {Q : Value → Shared → Prop} (hplain : args.any (·.1) = false)
    (h : wpAny M A (evalArgs (.type T) true args []) (fun a s₁ => wpC M A (PySem.call (.type T) (first ++ a.pos) a.kw) Q E s₁) E s) :
    wpC M A (callWith pos (.type T) first args []) Q E s := by
  unfold callWith
  refine .step (wpAny_holding (wpAny_mono h (fun a s₁ h₁ => .step (wpAny_standAt ?_)) fun _ _ x => x))
  dsimp only
  rw [hplain]
  exact .step (wpAny_pure (.tail h₁))
end

/-- a def's promise over clean stacks -/
noncomputable def FnC (B : Bs) (f : Str) (n : Nat) (flt : Bool) (ds : List D) (P : D → Prop) : Prop :=
  ∃ fa o fd, B.mg f = some (.ref fa) ∧ B.s₀.heap.get? fa = some o ∧ o.data = .func fd ∧ ∀ A, A.handled = none → Room A (n + 1) → ∀ C s vs, Base B s → C.In s.heap → RdAll C vs ds →
    (flt = true → ∃ l, A.frames = some l ∧ OuterOk B C l) → ∀ R : Result → Shared → Prop,
    (∀ v d C' s', P d → d.tree = true → C.le C' → Base B s' → C'.In s'.heap → Rd C' v d → R (.ok (.ret v)) s') →
    (flt = true → ∀ l e s', A.frames = some l → Base B s' → FaultOut B (sfC B) l C e s'.heap → R (.error (.ref e)) s') →
    codeC (model pw B.w) A (.call (.ref fa) ⟨vs, []⟩) R s
theorem FnC.of {B : Bs} {f : Str} {n : Nat} {flt : Bool} {ds : List D} {P : D → Prop} (h : FnP B f n flt ds P) : FnC B f n flt ds P := by
  obtain ⟨fa, o, fd, h1, h2, h3, h4⟩ := h
  exact ⟨fa, o, fd, h1, h2, h3, fun A hA r C s vs b ci rv hf R hR hE => .of (h4 A hA r C s vs b ci rv hf R hR hE)⟩

section
variable {B : Bs} {a : Act} {Δ : DE} {μ : List MO} {K : D → List MO → Prop} {Kn : DE → List MO → Prop} {Kr : D → List MO → Prop} {pos p : Pos}
theorem callC_done {f : Str} {n : Nat} {flt : Bool} {C1 : Cold} {ρ1 : List Addr} {μ1 : List MO} {s1 : Shared} {vs : List Value} {ds : List D} {Q : Value → Shared → Prop} {E : Value → Shared → Prop} (ok : ActOk B a) (ht : ds.all D.tree = true) (F : FnC B f n flt ds fun d => K d μ1)
    (hn : n + 1 ≤ a.n) (hf : flt = true → a.fr.isSome = true) (S1 : St B a Δ C1 ρ1 μ1 s1) (r1 : VAll C1 ρ1 vs ds) {fa : Addr} (hfa : B.mg f = some (.ref fa)) (hQ : Nx B a Δ C1 ρ1 K Q) (hE : FltOk B (sfC B) a C1 E) : wpC (model pw B.w) a.A (PySem.call (.ref fa) vs) Q E s1 := by
  obtain ⟨fa', o, fd, hfa', ho, hd, hc⟩ := F
  rw [hfa] at hfa'; cases hfa'
  refine .call (hc a.A ok.hh (ok.room.le (by (exact Nat.lt_succ_of_lt hn))) (snapC C1 s1.heap none) s1 vs S1.base (snap_in S1.cold) ((r1.rd ht).mono snap_le) (fun hflt => ?_) _ (fun v d C2 s2 hK htr le b2 ci r2 => ?_) fun hflt l e s2 hA b2 fo => ?_)
  · obtain ⟨l, hl⟩ := Option.isSome_iff_exists.mp (hf hflt)
    exact ⟨_, (ok.fr l hl).1, outer_call ok S1 hl⟩
  · obtain ⟨cle, S2⟩ := S1.back le b2 ci (.inl ⟨rfl, rfl⟩)
    exact hQ _ _ _ _ _ _ hK cle List.prefix_rfl S2 (.of (filt_rd r2))
  · obtain ⟨l', hl⟩ := Option.isSome_iff_exists.mp (hf hflt)
    rw [(ok.fr l' hl).1] at hA; cases hA
    exact hE l' hl e s2 b2 (fo.at.mono snap_le)
theorem EvC.call {f : Str} {es : List Expr} {n k : Nat} {flt : Bool} (h : EvL B a Δ es μ fun ds μ1 => ds.all D.tree = true ∧ FnC B f n flt ds fun d => K d μ1) (hx : a.env.kindOf f = some .globalImplicit := by rfl) (hk : fnTab.lookup f = some k := by rfl) (hn : n + 1 ≤ a.n := by decide)
    (hf : flt = true → a.fr.isSome = true := by first | (intro h; cases h; done) | (intro _; rfl)) (hne : es ≠ [] := by simp) (hs : noStar es = true := by rfl) (hd : (f == ("__debug__" : Str)) = false := by rfl) :
    EvC B a Δ μ (.Call (.Name f p) es [] pos) K := fun ok C ρ s S Q E hQ hE => by
  obtain ⟨e, r, rfl⟩ : ∃ e r, es = e :: r := by cases es with | nil => exact absurd rfl hne | cons e r => exact ⟨e, r, rfl⟩
  refine ok.st.fnE hk fun fa hfa o fd ho _ hd' _ _ _ _ _ _ _ _ _ _ => ?_
  show wpC _ _ (do callWith pos (← eval (.Name f p) a.env) [] (backTo pos (starEach (e :: r) a.env)) (backToKw pos (keywordEach [] a.env))) Q E s
  refine .step (wp_global ok S hx hfa ?_ hd)
  refine .callFn (o := o) (fd := fd) ?_
  rw [starEach_cons hs]
  have q := evL_wp (ps := pos) h hs ok C ρ s S (fun vs s1 => (s1.heap.get? fa = some o ∧ o.data = .func fd) ∧ wpC (model pw B.w) a.A (PySem.call (.ref fa) vs) Q E s1) E (fun vs ds C1 ρ1 μ1 s1 k1 c1 p1 S1 r1 =>
    ⟨⟨S1.base.keep _ _ ho, hd'⟩, callC_done ok k1.1 k1.2 hn hf S1 r1 hfa (hQ.mono c1 p1 fun _ _ h => h) (hE.mono c1)⟩) hE
  rw [starEach_cons hs] at q
  exact Calls.evalArgs_plain q

/-- bytearray() -/
theorem EvC.newB (h : K (.obj μ.length) (μ ++ [.barr []])) (hx : a.env.kindOf "bytearray" = some .globalImplicit := by rfl) : EvC B a Δ μ (.Call (.Name "bytearray" p) [] [] pos) K := fun ok C ρ s S Q E hQ hE => by
  show wpC _ _ (do callWith pos (← eval (.Name "bytearray" p) a.env) [] (backTo pos (starEach [] a.env)) (backToKw pos (keywordEach [] a.env))) Q E s
  refine .step (wp_builtin ok S hx (by simp [biNames]) PyProof.Rows.Boot.«bytearray» ?_ (by decide) (by decide))
  refine .callTy rfl (evalArgs_nil3 (.new fun h' o' e1 e2 e3 e4 e5 => ?_))
  have q := S.putM (h' := h') (tk := s.toks) e5 (Nat.le_refl _) (Heap.lt_size e1) (m := .barr []) ⟨o', #[], e1, e2, e4, rfl, e3⟩
  exact hQ _ _ _ _ _ _ h (.refl _) (List.prefix_append _ _) q ⟨_, by rw [← S.mu.len]; simp, rfl⟩

theorem bI_push {b : Array UInt8} {i : Int} (h0 : 0 ≤ i) (h1 : i < 256) : KBw.bInts (b.push i.toNat.toUInt8) = KBw.bInts b ++ [i] := by
  unfold KBw.bInts
  rw [Array.toList_push, List.map_append]
  simp only [List.map_cons, List.map_nil]
  congr 2
  have : i.toNat < 256 := by (exact ob28 h1)
  simp only [Nat.toUInt8_eq, UInt8.toNat_ofNat', Nat.reducePow]
  rw [Nat.mod_eq_of_lt this]
  (exact Int.toNat_of_nonneg h0)
theorem bI_append {b c : Array UInt8} : KBw.bInts (b ++ c) = KBw.bInts b ++ KBw.bInts c := by
  unfold KBw.bInts; rw [Array.toList_append, List.map_append]

theorem EvC.methB {x : Str} {e : Expr} {name : Str} {apos q : Pos} {id : String} {k : Nat} {ns : List Int} (he : Δ.lookup x = some (.obj k)) (hm : μ[k]? = some (.barr ns)) (slot : Slot "bytearray" name id) (hty : typeOf (.builtin id) = pure (.type "method_descriptor"))
    (h : Ev B a Δ μ e fun d2 μ2 => ∀ B a Δ, ActOk B a → ∀ C ρ s v w, St B a Δ C ρ μ2 s → VRd C ρ v (.obj k) → VRd C ρ w d2 → ∀ Q E, Nx B a Δ C ρ K Q → wpC (model pw B.w) a.A (PySem.call (.builtin id) [v, w]) Q E s)
    (hbase : attributeBase (.Name x q) name a.env (eval (.Name x q) a.env) = eval (.Name x q) a.env := by rfl) (hline : (apos.endLine == pos.line) = true := by rfl) (hs : noStar [e] = true := by rfl) (hd : (x == ("__debug__" : Str)) = false := by rfl) :
    EvC B a Δ μ (.Call (.Attribute (.Name x q) name apos) [e] [] pos) K := fun ok C ρ s S Q E hQ hE => by
  rw [arm_eval_Call, hbase]
  refine .step (wpAny_Name (wp_name ok S he fun v hv => ?_) hd)
  have hse : starEach [e] a.env = [(false, eval e a.env)] := starEach_cons hs
  obtain ⟨b, hb, hvb⟩ : ∃ b, ρ[k]? = some b ∧ v = .ref b := hv
  subst hvb
  obtain ⟨ob, y, ho, hc, hdd, rr, hdn⟩ := S.mu.at_ _ _ _ hb hm
  refine .step (wpAny_standAt ?_)
  have hform : methodCallForm ([e].length + ([] : List Keyword).length) (backTo pos (starEach [e] a.env)) (backToKw pos (keywordEach [] a.env)) = true := by rw [hse]; rfl
  have hpos : methodCallPos true (.Name x q) a.env apos pos = pure pos := by unfold methodCallPos; simp [hline]
  unfold methodCall
  rw [hform]
  refine .step (wpAny_holding (getMethod_builtin (T := "bytearray") (id := id) ⟨ob, ho, hc⟩ ba_plain slot hty (fun x hx => by cases hx; exact ⟨ob, ho, hdn⟩) ?_))
  refine .step (wpAny_of_eq hpos ?_)
  rw [hse]
  refine .callBi rfl (Calls.evalArgs_plain (Calls.spliced_cons (h ok C ρ s S _ E (fun w d2 C2 ρ2 μ2 s2 k2 c2 p2 S2 r2 => Calls.spliced_nil ?_) hE)))
  exact k2 B a Δ ok C2 ρ2 s2 (.ref b) w S2 (VRd.mono (d := .obj k) (v := .ref b) ⟨b, hb, rfl⟩ c2 p2) r2 Q E (hQ.mono c2 p2 fun _ _ h => h)

theorem EvC.append {x : Str} {e : Expr} {apos q : Pos} {k : Nat} {ns : List Int} (he : Δ.lookup x = some (.obj k)) (hm : μ[k]? = some (.barr ns))
    (h : Ev B a Δ μ e fun d2 μ2 => ∃ i ns', d2 = .int i ∧ 0 ≤ i ∧ i < 256 ∧ μ2[k]? = some (.barr ns') ∧ ns'.length < 16777216 ∧ K .none (μ2.set k (.barr (ns' ++ [i]))))
    (hbase : attributeBase (.Name x q) "append" a.env (eval (.Name x q) a.env) = eval (.Name x q) a.env := by rfl) (hline : (apos.endLine == pos.line) = true := by rfl) (hs : noStar [e] = true := by rfl) (hd : (x == ("__debug__" : Str)) = false := by rfl) :
    EvC B a Δ μ (.Call (.Attribute (.Name x q) "append" apos) [e] [] pos) K :=
  EvC.methB he hm ba_slot_append ba_type_append (h.mono fun d2 μ2 ⟨i, ns', hd2, h0, h1, hm2, hz, hk⟩ B a Δ ok C ρ s v w S hv hw Q E hQ => by
    subst hd2
    obtain ⟨_, rfl⟩ := Rd.intI hw
    obtain ⟨b, hb, rfl⟩ := hv
    obtain ⟨ob, y, ho, hc, hdd, rfl, hdn⟩ := S.mu.at_ _ _ _ hb hm2
    rw [KBw.ints_length] at hz
    refine .append ho hc hdd h0 h1 hz fun h' o' e1 e2 e3 e4 e5 => ?_
    exact hQ _ _ _ _ _ _ hk (.refl _) List.prefix_rfl (S.setM (tk := s.toks) hb hm2 rfl e5 ⟨o', _, e1, e2.trans hc, e4, bI_push h0 h1, e3.trans hdn⟩) .none) hbase hline hs hd
theorem EvC.extend {x : Str} {e : Expr} {apos q : Pos} {k : Nat} {ns : List Int} (he : Δ.lookup x = some (.obj k)) (hm : μ[k]? = some (.barr ns))
    (h : Ev B a Δ μ e fun d2 μ2 => ∃ ms ns', d2 = .bytes ms ∧ μ2[k]? = some (.barr ns') ∧ ns'.length + ms.length ≤ 16777216 ∧ K .none (μ2.set k (.barr (ns' ++ ms))))
    (hbase : attributeBase (.Name x q) "extend" a.env (eval (.Name x q) a.env) = eval (.Name x q) a.env := by rfl) (hline : (apos.endLine == pos.line) = true := by rfl) (hs : noStar [e] = true := by rfl) (hd : (x == ("__debug__" : Str)) = false := by rfl) :
    EvC B a Δ μ (.Call (.Attribute (.Name x q) "extend" apos) [e] [] pos) K :=
  EvC.methB he hm ba_slot_extend ba_type_extend (h.mono fun d2 μ2 ⟨ms, ns', hd2, hm2, hz, hk⟩ B a Δ ok C ρ s v w S hv hw Q E hQ => by
    subst hd2
    obtain ⟨_, _, rfl, rfl⟩ := Rd.bytesI hw
    obtain ⟨b, hb, rfl⟩ := hv
    obtain ⟨ob, y, ho, hc, hdd, rfl, hdn⟩ := S.mu.at_ _ _ _ hb hm2
    rw [KBw.ints_length, KBw.ints_length] at hz
    refine .extend ho hc hdd hz fun h' o' e1 e2 e3 e4 e5 => ?_
    exact hQ _ _ _ _ _ _ hk (.refl _) List.prefix_rfl (S.setM (tk := s.toks) hb hm2 rfl e5 ⟨o', _, e1, e2.trans hc, e4, bI_append, e3.trans hdn⟩) .none) hbase hline hs hd
end
/-! C6 -/
section
variable {w : World} {A : Around} {E : Value → Shared → Prop} {R : Result → Shared → Prop} {s : Shared}
theorem codeC.callDef {a : Addr} {args : Args} {o : Obj} {fd : FuncData} {body : List Stmt} (hroom : A.depth < recursionLimit)
    (ho : s.heap.get? a = some o) (hd' : o.data = .func fd) (hco : fd.scope.isCoroutine = false) (hgen : fd.scope.isGenerator = false) (hbody : fd.body = .stmts body) (hcd : s.heap.CodeRec fd.code fd.qualname)
    (h : wpAny (model pw w) A.in1 (bindArgs fd args) (fun binds s₁ =>
      wpAny (model pw w) A.in1 (newFunctionEnv fd.scope fd.globals fd.closure binds (fd.qualname ++ ".<locals>.") (some a) fd.code none fd.builtins)
        (fun env s₂ => s₂.heap.NoLimit ∧ codeC (model pw w) A (.func body env) R s₂) (fun e s' => R (.error e) s') s₁) (fun e s' => R (.error e) s') s) :
    codeC (model pw w) A (.call (.ref a) args) R s := by
  refine .ofTree rfl ?_
  show wpC _ A.in1 (callAny (.ref a) args) _ _ s
  simp only [callAny]
  refine .step (wpAny_load ho ?_)
  obtain ⟨c, oc, vs, tq, hc, hoc, hdc, hq⟩ := hcd
  simp only [hd', callFunction, hco, hgen, hbody, hc]
  rw [hc] at h
  refine .step (m := field (.ref c) 1) (wpAny_field hoc hdc hq (.step (wpAny_pure ?_)))
  exact .step (wpAny_mono h (fun binds s₁ h₁ => .step (wpAny_mono h₁ (fun env s₂ h₂ => .step (wpAny_enterFrame h₂.1 hroom (.done (And.intro rfl h₂.2)))) fun _ _ h' => h')) fun _ _ h' => h')
theorem codeC.func {body : List Stmt} {env : Env}
    (h : wpC (model pw w) (A.deeper env) (execs body env) (fun f s' => R (.ok (.ret (match f with | .ret v => v | _ => .none))) s')
      (fun e s' => wpAny (model pw w) (A.deeper env) (leaving env e) (fun _ s'' => R (.error e) s'') (fun e' s'' => R (.error e') s'') s') s) :
    codeC (model pw w) A (.func body env) R s := by
  refine .ofTree rfl ?_
  show wpC _ (A.deeper env) (do point; match ← (execs body env).onRaise (leaving env) with | .ret v => ret v | _ => ret .none) _ _ s
  refine .step (wpAny_point (.bind (.onRaise (h.mono (fun f s' h' => ?_) fun _ _ h' => .of h'))))
  cases f <;> exact .done h'
theorem wpC.noted {α : Type} {env : Env} {m : Sem α} {Q : α → Shared → Prop} (h : wpC (model pw w) A m Q (notedBy (model pw w) A env E) s) : wpC (model pw w) A (m.onRaise fun x => do noteFrame x env; theTreesLotGoes x) Q E s :=
  .onRaise (h.mono (fun _ _ q => q) fun _ _ hx => .step (wpAny_mono hx (fun _ _ e => .of (wpAny_theTreesLotGoes e)) fun _ _ e => e))
end

section
variable {B : Bs} {f : Str} {k n : Nat}
/-- into a def's body, on a clean stack -/
theorem enterC {A : Around} {fa : Addr} {o : Obj} {fd : FuncData} {C : Cold} {ρ : List Addr} {μ : List MO} {s : Shared} {vs : List Value} {ds : List D} {Δ : DE} {fr : Option (List Env)} {R : Result → Shared → Prop} {Kn : DE → List MO → Prop} {Kr : D → List MO → Prop}
    (st : Stat B) (hA : A.handled = none) (room : Room A (n + 2)) (b : Base B s) (ci : C.In s.heap) (M : Mu B C ρ μ s.heap) (rv : VAll C ρ vs ds) (hmg : B.mg f = some (.ref fa)) (ho : B.s₀.heap.get? fa = some o) (hd : o.data = .func fd) (hcd : B.s₀.heap.CodeRec fd.code fd.qualname) (hq : fd.qualname = f)
    (hp : fd.params = (fx k).1) (hbody : fd.body = .stmts (fx k).2.1) (hsc : fd.scope = (fx k).2.2) (hgl : fd.globals = mainGlobals) (hclo : fd.closure = []) (hbu : fd.builtins = builtinsNs) (hkd : fd.kwdefaults = .none) (hdf : DfOk B k fd.defaults)
    (hb : Binds B k ds Δ) {ns : List Str} (hns : Δ.map (·.1) = ns) (hg : goodNames k ns = true) (hfr : ∀ l, fr = some l → A.frames = some l ∧ OuterOk B C l)
    (body : ∀ L cd, ExC B (actF A k f L fa cd fr n) Δ μ (fx k).2.1 Kn Kr)
    (hn : ∀ Δ' C' ρ' μ' s', Kn Δ' μ' → C.le C' → ρ <+: ρ' → Base B s' → C'.In s'.heap → Mu B C' ρ' μ' s'.heap → R (.ok (.ret .none)) s')
    (hr : ∀ v d C' ρ' μ' s', Kr d μ' → C.le C' → ρ <+: ρ' → Base B s' → C'.In s'.heap → Mu B C' ρ' μ' s'.heap → VRd C' ρ' v d → R (.ok (.ret v)) s')
    (he : ∀ l e s', fr = some l → Base B s' → FaultOut B (sfC B) l C e s'.heap → R (.error (.ref e)) s') :
    codeC (model pw B.w) A (.call (.ref fa) ⟨vs, []⟩) R s := by
  simp only [goodNames, Bool.and_eq_true, decide_eq_true_eq, Bool.not_eq_true', beq_iff_eq] at hg
  obtain ⟨⟨⟨⟨⟨g1, g2⟩, g3⟩, g4⟩, g5⟩, g6⟩ := hg
  subst hns
  obtain ⟨binds, hbind, ba⟩ := hb fd hp hkd hdf C ρ s vs b ci rv
  have lim : s.heap.NoLimit := st.lim.keeps fun _ _ e => b.keep _ _ e
  obtain ⟨name, qual, params, fbody, scope, globals, closure, dV, kV, doc, pm, an, cd, ct, bu⟩ := fd
  dsimp only at hq hp hbody hsc hgl hclo hbu hcd
  subst hq hp hbody hsc hgl hclo hbu
  refine codeC.callDef room.depth (b.keep _ _ ho) hd g4 g5 rfl (hcd.keeps fun _ _ e => b.keep _ _ e) (hbind _ _ _ _ ?_)
  have kinds : ∀ x ∈ binds, (fx k).2.2.names.lookup x.1 = some .local ∨ ((fx k).2.2.names.lookup x.1 = some .cell ∧ ((cellsFrom (s.heap.objs.size + 1) (fx k).2.2.names []).lookup x.1).isSome = true) := fun x hx => by
    have hm : x.1 ∈ Δ.map (·.1) := by rw [← ba.names]; exact List.mem_map_of_mem hx
    have q := List.all_eq_true.mp g2 x.1 hm
    simp only [Bool.or_eq_true, beq_iff_eq] at q
    rcases q with q | q
    · exact .inl q
    · exact .inr ⟨q, cellsFrom_some _ _ _ (.inl q)⟩
  refine wpAny_newFunctionEnv_cells g6 kinds fun env henv s' x => ?_
  subst henv
  have hk := x.toInCall.keep
  refine ⟨lim.keeps hk, codeC.func ?_⟩
  obtain ⟨h₁, tk, rfl⟩ := x.toInCall.same
  have b' : Base B { s with heap := h₁, toks := tk } := b.to fun c o e => hk c o (b.keep c o e)
  have fresh : ∀ c, s.heap.objs.size ≤ c → C c = none ∧ B.s₀.heap.get? c = none := fun c hc => by
    refine ⟨?_, ?_⟩
    · cases e : C c with
      | none => rfl
      | some p => exact absurd (ci.lt e) (Nat.not_lt.mpr hc)
    · cases e : B.s₀.heap.get? c with
      | none => rfl
      | some p => exact absurd (Heap.lt_size (b.keep _ _ e)) (Nat.not_lt.mpr hc)
  have S : St B (actF A k qual s.heap.objs.size fa cd fr n) Δ C ρ μ { s with heap := h₁, toks := tk } := {
    base := b'
    cold := ci.keeps hk
    mu := M.keeps (s := s) (.refl _) (fun c _ o e => hk c o e) fun i c o e f l => (M.new i c o e f l).1
    nL := (fresh _ (Nat.le_refl _)).1
    bL := (fresh _ (Nat.le_refl _)).2
    nW := fun p hp => by
      have h1 : s.heap.objs.size < p.2 := x.above p.1 p.2 hp
      refine ⟨(fresh _ (Nat.le_of_lt h1)).1, (fresh _ (Nat.le_of_lt h1)).2, _, x.cell p.1 p.2 (lookup_of_mem_nodup ?_ hp)⟩
      exact cellsFrom_names (fx k).2.2.names 0 (s.heap.objs.size + 1) [] [] rfl ▸ g3
    ns := ⟨_, x.toInCall.ns, fun y d e => by
      obtain ⟨v, hv, h1, h2⟩ := bound (kd := Env.kindOf (envF k qual s.heap.objs.size fa cd)) (m := fun _ => none) (cm := fun _ => none) ba g1 e
      refine ⟨v, hv, ?_⟩
      have hm : y ∈ Δ.map (·.1) := by
        have := mem_of_lookup e
        exact List.mem_map.mpr ⟨(y, d), this, rfl⟩
      have q := List.all_eq_true.mp g2 y hm
      simp only [Bool.or_eq_true, beq_iff_eq] at q
      rcases q with q | q
      · exact .inl ⟨q, h1 q⟩
      · obtain ⟨c, hc⟩ := Option.isSome_iff_exists.mp (cellsFrom_some (fx k).2.2.names (s.heap.objs.size + 1) [] (.inl q))
        have hnl : Env.kindOf (envF k qual s.heap.objs.size fa cd) y ≠ some .local := by show (fx k).2.2.names.lookup y ≠ some .local; rw [q]; decide
        have hh := h2 hnl
        have this : h₁.IsCell c (bindC (Env.kindOf (envF k qual s.heap.objs.size fa cd)) binds (fun _ => none) y) := x.cell y c hc
        rw [hh] at this
        exact .inr ⟨q, c, hc, this⟩⟩
    outer := fun l e => (hfr l e).2
    its := fun p hp => nomatch hp
    itn := .nil }
  have ok : ActOk B (actF A k qual s.heap.objs.size fa cd fr n) := {
    st := st, hh := hA, room := room.deeper _, kind := g6, gl := rfl, bu := rfl
    apart := fun y z c h1 h2 => name_of_addr x.apart (mem_of_lookup h1) (mem_of_lookup h2)
    W := fun y c hm => lookup_of_mem_nodup (cellsFrom_names (fx k).2.2.names 0 (s.heap.objs.size + 1) [] [] rfl ▸ g3) hm
    fr := fun l e => ⟨Around.frames_deeper (hfr l e).1, rfl⟩ }
  refine body _ cd ok C ρ _ S _ _ (fun Δ' C' ρ' μ' s' k1 c1 p1 S1 => hn Δ' C' ρ' μ' s' k1 c1 p1 S1.base S1.cold S1.mu) (fun v d Δ' C' ρ' μ' s' k1 c1 p1 S1 r1 => hr v d C' ρ' μ' s' k1 c1 p1 S1.base S1.cold S1.mu r1) ?_
  intro l hl e s' b1 fa'
  refine fault_leave (ok.fr l hl).1 rfl S.nL fa' fun h' fo => he l e _ hl ?_ fo
  obtain ⟨Bh, a0, k, fl⟩ := fo
  exact b1.to (tk := s'.toks) fun c o e => fl.1 c o (k.1 c o e)
end

section
variable {B : Bs} {f : Str} {k n : Nat}
theorem FnC.ofF {ds : List D} {Δ : DE} {P : D → Prop} (st : Stat B) (hk : fnTab.lookup f = some k) (hb : Binds B k ds Δ) {ns : List Str} (hns : Δ.map (·.1) = ns) (hg : goodNames k ns = true)
    (body : ∀ A L fa cd l, ExC B (actF A k f L fa cd (some l) n) Δ [] (fx k).2.1 (fun _ _ => P .none) (fun d _ => d.tree = true ∧ P d)) : FnC B f (n + 1) true ds P := by
  refine st.fnE hk fun fa hmg o fd ho hc hd hcd hq hp hbody hsc hgl hclo hbu hkd hdf => ?_
  refine ⟨fa, o, fd, hmg, ho, hd, fun A hA room C s vs b ci r hfr R hR hF => ?_⟩
  obtain ⟨l, hl, hou⟩ := hfr rfl
  refine enterC st hA room b ci Mu.nil (VAll.of r) hmg ho hd hcd hq hp hbody hsc hgl hclo hbu hkd hdf hb hns hg (fr := some l) (fun _ e => by cases e; exact ⟨hl, hou⟩) (fun L cd => body A L fa cd l) (fun Δ' C' ρ' μ' s' k1 c1 p1 b1 ci1 _ => hR _ _ _ _ k1 rfl c1 b1 ci1 .none)
    (fun v d C' ρ' μ' s' k1 c1 p1 b1 ci1 _ r1 => hR _ _ _ _ k1.2 k1.1 c1 b1 ci1 (r1.rd k1.1)) (fun l' e s' hl' b1 fo => by cases hl'; exact hF rfl l e s' hl b1 fo)
theorem FnC.ofN {ds : List D} {Δ : DE} {P : D → Prop} (st : Stat B) (hk : fnTab.lookup f = some k) (hb : Binds B k ds Δ) {ns : List Str} (hns : Δ.map (·.1) = ns) (hg : goodNames k ns = true)
    (body : ∀ A L fa cd, ExC B (actF A k f L fa cd none n) Δ [] (fx k).2.1 (fun _ _ => P .none) (fun d _ => d.tree = true ∧ P d)) : FnC B f (n + 1) false ds P := by
  refine st.fnE hk fun fa hmg o fd ho hc hd hcd hq hp hbody hsc hgl hclo hbu hkd hdf => ?_
  refine ⟨fa, o, fd, hmg, ho, hd, fun A hA room C s vs b ci r _ R hR _ => ?_⟩
  refine enterC st hA room b ci Mu.nil (VAll.of r) hmg ho hd hcd hq hp hbody hsc hgl hclo hbu hkd hdf hb hns hg (fr := none) (fun _ e => by cases e) (fun L cd => body A L fa cd) (fun Δ' C' ρ' μ' s' k1 c1 p1 b1 ci1 _ => hR _ _ _ _ k1 rfl c1 b1 ci1 .none)
    (fun v d C' ρ' μ' s' k1 c1 p1 b1 ci1 _ r1 => hR _ _ _ _ k1.2 k1.1 c1 b1 ci1 (r1.rd k1.1)) (fun _ _ _ e => by cases e)
end

/-! loops -/
noncomputable def ForKC (B : Bs) (a : Act) (tg : Expr) (body : List Stmt) (Kn : DE → List MO → Prop) (Kr : D → List MO → Prop) : List D → DE → List MO → Prop
  | [], Δ, μ => Kn Δ μ
  | d :: ds, Δ, μ => ∃ b, BindT a tg d b ∧ ∀ r, ExC B (a.wit r) (b ++ Δ) μ body (fun Δ' μ' => ForKC B a tg body Kn Kr ds Δ' μ') Kr
structure ForInvC (B : Bs) (a : Act) (tg : Expr) (body : List Stmt) (Kn : DE → List MO → Prop) (Kr : D → List MO → Prop) (it : Value) (C : Cold) (ρ : List Addr) (n : Nat) (s' : Shared) : Prop where
  out : ∃ items Δ' C' ρ' μ' os, n = items.length + 1 ∧ ForKC B a tg body Kn Kr items Δ' μ' ∧ C.le C' ∧ ρ <+: ρ' ∧ St B (a.wit (os ++ a.its)) Δ' C' ρ' μ' s' ∧ Yields tg it C' os items
section
variable {B : Bs} {a : Act} {Δ : DE} {μ : List MO} {Kn : DE → List MO → Prop} {Kr : D → List MO → Prop} {pos p : Pos}
theorem Ex1C.for_ {tg iter : Expr} {body : List Stmt} (h : EvIter B a Δ μ tg iter fun items μ1 => ForKC B a tg body Kn Kr items Δ μ1)
    (hs : ∀ x, foldedSetIterable iter a.env x = pure x := by intro _; rfl) : Ex1C B a Δ μ (.For tg iter body [] pos) Kn Kr := fun ok C ρ s S Q E hn hr hE => by
  rw [exec_For]
  refine .step (wpAny_standAt (.step (wpAny_mono (h ok C ρ s S (fun it s₂ => codeC (model pw B.w) a.A (.forLoop tg it body [] a.env) (fun r s' => match r with | .ok f => Q f s' | .error e => cameBackBy (model pw B.w) a.A a.env E e s') s₂) E (fun it os items C1 ρ1 μ1 s1 k1 c1 p1 S1 y1 _ => ?_) hE) (fun x s₁ h₁ => ?_) fun _ _ x => x)))
  · refine .loop rfl (ForInvC B a tg body Kn Kr it C ρ) ?_ (items.length + 1) ⟨items, Δ, C1, ρ1, μ1, os, rfl, k1, c1, p1, S1, y1⟩
    rintro n s2 ⟨items, Δ2, C2, ρ2, μ2, os, rfl, k2, c2, p2, S2, y2⟩
    show wpC _ a.A ((forTurn tg it body [] a.env).onRaise (fun x => do noteFrame x a.env; theTreesLotGoes x)) _ _ s2
    refine .noted ?_
    simp only [forTurn]
    refine .step (wpAny_standAt (.step (wpAny_onRaise ?_)))
    cases items with
    | nil =>
      refine y2 _ _ _ _ _ ok.hh S2.cold S2.osAt fun h' off => ?_
      refine .done ⟨rfl, .inr (.of (codeAny_block (wpAny_execs_nil ?_)))⟩
      exact hn _ _ _ _ _ k2 c2 p2 (S2.off (tk := s2.toks) off)
    | cons d ds =>
      obtain ⟨b, hb, hbody⟩ := k2
      generalize hEE : (notedBy (model pw B.w) a.A a.env fun e s' => cameBackBy (model pw B.w) a.A a.env E e s') = EE
      refine wpAny_mono (y2 _ _ _ (fun r s3 => match r with
        | none => False
        | some v => wpAny (model pw B.w) a.A (PySem.assign tg a.env v) (fun _ s4 => wpC (model pw B.w) a.A (execs body a.env) (fun f s5 => match f with
              | .next | .cont => ∃ m, m < (d :: ds).length + 1 ∧ ForInvC B a tg body Kn Kr it C ρ m s5
              | .brk => Q .next s5
              | .ret v => Q (.ret v) s5) EE s4) EE s3)
          EE ok.hh S2.cold S2.osAt fun v h' tk os' e1 e2 e3 e4 e5 e6 => ?_) (fun r s3 h3 => ?_) fun _ _ x => wpAny_standAt (hEE ▸ x)
      · obtain ⟨C3, c3, S3, rv⟩ := S2.item (tk := tk) e1 e2 e3 e4 e5
        refine wp_bindT (a := a.wit (os' ++ a.its)) (ok.wit _) S3 hb.wit rv fun s4 S4 => ?_
        refine hbody _ (ok.wit _) C3 ρ2 _ S4 _ _ (fun Δ' C' ρ' μ' s' k c p S' => ?_) (fun v d Δ' C' ρ' μ' s' k c p S' r' => ?_) (hEE ▸ flt_loop ok (c2.trans c3) hE)
        · exact ⟨ds.length + 1, by simp, ds, Δ', C', ρ', μ', os', rfl, k, c2.trans (c3.trans c), p2.trans p, S', e6.mono (c3.trans c)⟩
        · exact hr v d Δ' C' ρ' μ' s' k (c2.trans (c3.trans c)) (p2.trans p) S'.drop r'
      · cases r with
        | none => exact h3.elim
        | some v =>
          refine .step (wpAny_mono h3 (fun _ s4 h4 => .step (wpAny_mono h4 (fun _ s5 h5 => .bind (h5.monoQ fun f s6 h6 => ?_)) fun _ _ x => hEE ▸ x)) fun _ _ x => hEE ▸ x)
          cases f with
          | next => exact .done ⟨rfl, .inl ⟨rfl, h6⟩⟩
          | cont => exact .done ⟨rfl, .inl ⟨rfl, h6⟩⟩
          | brk => exact .done h6
          | ret v => exact .done h6
  · exact .step (wpAny_of_eq (hs x) (.step (wpAny_standAt (.step (wpAny_holding (wpAny_mono h₁ (fun it s₂ h₂ => .runOwn h₂ nofun) fun _ _ x => x))))))

structure WhInvC (B : Bs) (a : Act) (I : Nat → DE → List MO → Prop) (C : Cold) (ρ : List Addr) (n : Nat) (s' : Shared) : Prop where
  out : ∃ Δ' C' ρ' μ', I n Δ' μ' ∧ C.le C' ∧ ρ <+: ρ' ∧ St B a Δ' C' ρ' μ' s'
theorem Ex1C.while_ {t : Expr} {body : List Stmt} (I : Nat → DE → List MO → Prop) (n : Nat) (h0 : I n Δ μ)
    (h : ∀ n Δ μ, I n Δ μ → EvB B a Δ μ t fun c μ1 => if c then ExC B a Δ μ1 body (fun Δ' μ' => ∃ m, m < n ∧ I m Δ' μ') Kr else Kn Δ μ1) : Ex1C B a Δ μ (.While t body [] pos) Kn Kr := fun ok C ρ s S Q E hn hr hE => by
  rw [exec_While]
  refine .step (wpAny_standAt (.runOwn (.loop rfl (WhInvC B a I C ρ) ?_ n ⟨Δ, C, ρ, μ, h0, .refl _, List.prefix_rfl, S⟩) nofun))
  rintro n s2 ⟨Δ2, C2, ρ2, μ2, k2, c2, p2, S2⟩
  show wpC _ a.A ((whileTurn t body [] a.env).onRaise (fun x => do noteFrame x a.env; theTreesLotGoes x)) _ _ s2
  refine .noted ?_
  simp only [whileTurn]
  refine .step (h n Δ2 μ2 k2 ok C2 ρ2 s2 S2 _ _ (fun c C3 ρ3 μ3 s3 k3 c3 p3 S3 => ?_) (flt_loop ok c2 hE))
  cases c with
  | true =>
    simp only [if_true] at k3 ⊢
    refine .bind ((k3 ok C3 ρ3 s3 S3 (fun f s5 => match f with
              | .next | .cont => ∃ m, m < n ∧ WhInvC B a I C ρ m s5
              | .brk => Q .next s5
              | .ret v => Q (.ret v) s5) _ (fun Δ' C' ρ' μ' s' k c p S' => ?_) (fun v d Δ' C' ρ' μ' s' k c p S' r' => ?_) (flt_loop ok (c2.trans c3) hE)).monoQ fun f s6 h6 => ?_)
    · obtain ⟨m, hm, hI⟩ := k
      exact ⟨m, hm, Δ', C', ρ', μ', hI, c2.trans (c3.trans c), p2.trans (p3.trans p), S'⟩
    · exact hr v d Δ' C' ρ' μ' s' k (c2.trans (c3.trans c)) (p2.trans (p3.trans p)) S' r'
    · cases f with
      | next => exact .done ⟨rfl, .inl ⟨rfl, h6⟩⟩
      | cont => exact .done ⟨rfl, .inl ⟨rfl, h6⟩⟩
      | brk => exact .done h6
      | ret v => exact .done h6
  | false =>
    simp only [Bool.false_eq_true, if_false] at k3 ⊢
    exact .step (wpAny_execs_nil (.done (hn _ _ _ _ _ k3 (c2.trans c3) (p2.trans p3) S3)))
end
/-! C7 -/
noncomputable def Fl (Bh : Heap) (e : Addr) (cls : Value) (h : Heap) : Prop := Bh.StaysIn h ∧ ∃ oe vs T oT ts, h.get? e = some oe ∧ oe.cls = cls ∧ oe.data = .fields vs ∧ vs[1]? = some (.ref T) ∧ Bh.get? T = none ∧ T ≠ e ∧ h.get? T = some oT ∧ oT.data = .fields ts ∧ 3 < ts.size
section
variable {B : Bs} {M : Model} {A : Around} {E : Value → Shared → Prop} {s : Shared} {cls : Value} {env : Env} {l : List Env} {C : Cold} {e : Addr} {Bh : Heap}
theorem fl_of {a0 : Value} {L : Addr} {h : Heap} (hh : Heap.HeldW Bh l e cls a0 L h) : Fl Bh e cls h := by
  obtain ⟨hkb, hen, hl, oe, vs, T, oT, ts, he, hcls, hd, h1, hnT, hTe, hT, hdT, h3⟩ := hh
  exact ⟨hkb, oe, vs, T, oT, ts, he, hcls.1, hd, h1, hnT, hTe, hT, hdT, (Array.getElem?_eq_some_iff.mp h3).1⟩
theorem fl_none {Q : Unit → Shared → Prop} (f : Fl Bh e cls s.heap) (hQ : ∀ h', Fl Bh e cls h' → s.heap.UpToSlots h' → Q () { s with heap := h' }) : wpAny M A (setFlight (.ref e) none) Q E s := by
  obtain ⟨hkb, oe, vs, T, oT, ts, he, hcls, hd, h1, hnT, hTe, hT, hdT, h3⟩ := f
  have other : ∀ b, b ≠ T → (s.heap.update T (Obj.mapFields (·.setIfInBounds 3 ((none : Option Addr).elim Value.none fun f => rawInt f)))).get? b = s.heap.get? b :=
    fun b hb => Heap.get?_update_other _ _ (Ne.symm hb)
  have noRecord : ∀ b o, s.heap.get? b = some o → (∀ vs, o.data ≠ .fields vs) → b ≠ T := fun b o hb hnf q => by
    rw [q, hT] at hb; injection hb with hb; subst hb; exact hnf ts hdT
  unfold setFlight
  refine wpAny_bind (wpAny_field he hd h1 ?_)
  rw [if_pos (show (Value.ref T != Value.none) = true from by simp)]
  refine wpAny_setField hT hdT h3 (hQ _ ⟨fun b o hbo => (other b fun q => by rw [q, hnT] at hbo; cases hbo).trans (hkb b o hbo),
    oe, vs, T, _, _, (other e (Ne.symm hTe)).trans he, hcls, hd, h1, hnT, hTe, Heap.get?_update_self _ hT (Obj.isFreed_of_fields (Obj.data_mapFields hdT _)), Obj.data_mapFields hdT _, by simp [h3]⟩
    fun b o hb hn => ⟨o.slots, (other b (noRecord b o hb hn)).trans hb⟩)
theorem in_upTo' {h h' : Heap} {fs : List Addr} (k : ∀ b p, C b = some p → (b ∈ fs ∧ ∃ es n, p.2.data = .dict es n) ∨ Has Bh b p) (ci : C.In h) (st : Bh.StaysIn h') (u : h.UpToSlots h') : C.In h' := by
  intro b p e
  rcases k b p e with ⟨hm, es, n, hdd⟩ | ⟨o, ho, r⟩
  · obtain ⟨o, ho, r1, r2, _⟩ := ci b p e
    obtain ⟨sl, hs⟩ := u b o ho (fun vs q => by rw [r2, hdd] at q; cases q)
    exact ⟨_, hs, r1, r2, fun q => absurd hdd (q _ _)⟩
  · exact ⟨o, st _ _ ho, r⟩
theorem wp_globalB {x : Str} {v : Value} {a : Act} {pos : Pos} {A : Around} {Q : Value → Shared → Prop} (ok : ActOk B a) (b : Base B s) (hx : a.env.kindOf x = some .globalImplicit)
    (e : B.mg x = some v) (h : Q v s) (hd : (x == ("__debug__" : Str)) = false := by rfl) : wpAny (model pw B.w) A (eval (.Name x pos) a.env) Q E s :=
  Name_function_global ok.kind hx (loadGlobal_global (mg := B.mg) (by rw [ok.gl]; exact ok.st.g.keeps fun _ _ e => b.keep _ _ e) e h) hd
end

section
variable {B : Bs} {a : Act} {Δ : DE} {μ : List MO} {K : D → List MO → Prop} {Kn : DE → List MO → Prop} {Kr : D → List MO → Prop} {pos p : Pos}

end
/-! C8 -/
section
variable {B : Bs} {a : Act} {Δ : DE} {μ : List MO} {C : Cold} {ρ : List Addr} {s : Shared} {A : Around} {M : Model}
noncomputable def binds : List Str → List D → DE
  | x :: xs, d :: ds => binds xs ds ++ [(x, d)]
  | _, _ => []
theorem wp_inOrder {Q : Unit → Shared → Prop} {E : Value → Shared → Prop} : ∀ {xs : List Str} {vs : List Value} {ds : List D} {Δ : DE} {s : Shared}, ActOk B a → St B a Δ C ρ μ s → VAll C ρ vs ds → (∀ x ∈ xs, StoreOk a x) → xs.length = ds.length →
    (∀ s', St B a (binds xs ds ++ Δ) C ρ μ s' → Q () s') → wpAny M A (assignInOrder (xs.map fun n => bindName a.env n) vs) Q E s
  | [], [], [], Δ, s, ok, S, _, _, _, hQ => wpAny_pure (hQ _ S)
  | x :: xs, v :: vs, d :: ds, Δ, s, ok, S, ⟨hv, r⟩, hst, hl, hQ => by
    show wpAny M A (do holding vs (bindName a.env x v); assignInOrder (xs.map fun n => bindName a.env n) vs) Q E s
    refine wpAny_bind (wpAny_holding (wpAny_bindName (wp_store ok S (hst x (.head _)) hv fun s1 S1 => ?_)))
    refine wp_inOrder ok S1 r (fun y hy => hst y (.tail _ hy)) (by simpa using hl) fun s' S' => hQ s' ?_
    have : binds xs ds ++ (x, d) :: Δ = binds (x :: xs) (d :: ds) ++ Δ := by simp [binds]
    rw [← this]; exact S'
  | [], _ :: _, [], _, _, _, _, h, _, _, _ => h.elim
  | _ :: _, [], _ :: _, _, _, _, _, h, _, _, _ => h.elim
  | [], _, _ :: _, _, _, _, _, _, _, hl, _ => by simp at hl
  | _ :: _, _, [], _, _, _, _, _, _, hl, _ => by simp at hl
theorem VAll.rev {vs : List Value} {ds : List D} (h : VAll C ρ vs ds) : VAll C ρ vs.reverse ds.reverse := by
  have app : ∀ {vs ws : List Value} {ds es : List D}, VAll C ρ vs ds → VAll C ρ ws es → VAll C ρ (vs ++ ws) (ds ++ es) := by
    intro vs
    induction vs with
    | nil => intro ws ds es h k; cases ds with
      | nil => exact k
      | cons _ _ => exact h.elim
    | cons v vs ih => intro ws ds es h k; cases ds with
      | nil => exact h.elim
      | cons d ds => exact ⟨h.1, ih h.2 k⟩
  induction vs generalizing ds with
  | nil => cases ds with
    | nil => exact h
    | cons _ _ => exact h.elim
  | cons v vs ih => cases ds with
    | nil => exact h.elim
    | cons d ds =>
      rw [List.reverse_cons, List.reverse_cons]
      exact app (ih h.2) ⟨h.1, trivial⟩
end

section
variable {B : Bs} {a : Act} {Δ : DE} {μ : List MO} {K : D → List MO → Prop} {Kn : DE → List MO → Prop} {Kr : D → List MO → Prop} {pos p : Pos}

/-- x, y = e, f (stores last to first) -/
theorem Ex1.asgTup {elts es : List Expr} {k k2 : Nat} {tpos vpos : Pos} (names : List Str) (h : EvL B a Δ es μ fun ds μ1 => ds.length = names.length ∧ Kn (binds names.reverse ds.reverse ++ Δ) μ1)
    (hw : swappedStores [.Tuple elts k tpos] (.Tuple es k2 vpos) a.env = pure (some names)) (hst : ∀ x ∈ names.reverse, StoreOk a x) (hlen : names.length ≤ 1000)
    (hs : swapsWithSole [.Tuple elts k tpos] (.Tuple es k2 vpos) pos.line a.env = pure false := by rfl) (hno : noStar es = true := by rfl) : Ex1 B a Δ μ (.Assign [.Tuple elts k tpos] (.Tuple es k2 vpos) pos) Kn Kr := fun ok C ρ s S Q E hn hr hE => by
  refine Assign_Tuple_swapped (names := names) (wpAny_Tuple (evL_wp h hno ok C ρ s S _ E (fun vs ds C1 ρ1 μ1 s1 k1 c1 p1 S1 r1 => ?_) hE)) hs hw
  obtain ⟨hl, hk⟩ := k1
  have hvl := r1.length
  refine ⟨by rw [hvl, hl, sizeLine_eq]; (exact Nat.le_trans hlen (Nat.le_add_left _ _)), ?_⟩
  have hT : IsTup (s1.heap.push { cls := .type "tuple", data := .seq vs.toArray }) s1.heap.objs.size vs.toArray := ⟨_, Heap.get?_push_size _ rfl, rfl, 0, rfl⟩
  have S2 := S1.keep0 (h' := s1.heap.push { cls := .type "tuple", data := .seq vs.toArray }) (tk := s1.toks) (fun _ _ e => Heap.get?_push_of_some _ e)
  have hsz : names.length = vs.toArray.size := by rw [List.size_toArray, hvl, hl]
  rw [hsz]
  refine unpackItems_tuple ok.hh hT fun h' he => ?_
  have S3 := S2.keep0 (h' := h') (tk := s1.toks) fun b o hb => he b o (Nat.ne_of_lt (Heap.lt_size hb)) hb
  refine wp_inOrder ok S3 (vs := vs.toArray.toList.reverse) (ds := ds.reverse) (VAll.rev r1) hst (by simp [hl]) fun s' S' => hn _ _ _ _ _ hk c1 p1 S'

theorem each_names {xs : List (Str × Pos)} {env : Env} : (assignEach (xs.map fun x => Expr.Name x.1 x.2) env).length = xs.length ∧ (assignEach (xs.map fun x => Expr.Name x.1 x.2) env).findIdx? (·.1) = none ∧
    (assignEach (xs.map fun x => Expr.Name x.1 x.2) env).map (·.2) = xs.map fun x => PySem.assign (.Name x.1 x.2) env := by
  induction xs with
  | nil => exact ⟨rfl, rfl, rfl⟩
  | cons x xs ih =>
    have e : assignEach ((x :: xs).map fun x => Expr.Name x.1 x.2) env = (false, PySem.assign (.Name x.1 x.2) env) :: assignEach (xs.map fun x => Expr.Name x.1 x.2) env := rfl
    rw [e]
    refine ⟨by rw [List.length_cons, ih.1, List.length_cons], ?_, by rw [List.map_cons, ih.2.2]; rfl⟩
    rw [List.findIdx?_cons, ih.2.1]; rfl
theorem wp_eachIn {C : Cold} {ρ : List Addr} {A : Around} {M : Model} {Q : Unit → Shared → Prop} {E : Value → Shared → Prop} : ∀ {xs : List (Str × Pos)} {vs : List Value} {ds : List D} {Δ : DE} {s : Shared}, ActOk B a → St B a Δ C ρ μ s → VAll C ρ vs ds → (∀ x ∈ xs, StoreOk a x.1) → xs.length = ds.length →
    (∀ s', St B a (binds (xs.map (·.1)) ds ++ Δ) C ρ μ s' → Q () s') → wpAny M A (assignInOrder (xs.map fun x => PySem.assign (.Name x.1 x.2) a.env) vs) Q E s
  | [], [], [], Δ, s, ok, S, _, _, _, hQ => wpAny_pure (hQ _ S)
  | x :: xs, v :: vs, d :: ds, Δ, s, ok, S, ⟨hv, r⟩, hst, hl, hQ => by
    show wpAny M A (do holding vs (PySem.assign (.Name x.1 x.2) a.env v); assignInOrder (xs.map fun x => PySem.assign (.Name x.1 x.2) a.env) vs) Q E s
    refine wpAny_bind (wpAny_holding (PyProof.Rows.assign_Name (wp_store ok S (hst x (.head _)) hv fun s1 S1 => ?_)))
    refine wp_eachIn ok S1 r (fun y hy => hst y (.tail _ hy)) (by simpa using hl) fun s' S' => hQ s' ?_
    have : binds (xs.map (·.1)) ds ++ (x.1, d) :: Δ = binds ((x :: xs).map (·.1)) (d :: ds) ++ Δ := by simp [binds]
    rw [← this]; exact S'
  | [], _ :: _, [], _, _, _, _, h, _, _, _ => h.elim
  | _ :: _, [], _ :: _, _, _, _, _, h, _, _, _ => h.elim
  | [], _, _ :: _, _, _, _, _, _, _, hl, _ => by simp at hl
  | _ :: _, _, [], _, _, _, _, _, _, hl, _ => by simp at hl
/-- x, y = e, f (stores first to last) -/
theorem Ex1.asgTupN {es : List Expr} {k k2 : Nat} {tpos vpos : Pos} (xs : List (Str × Pos)) (h : EvL B a Δ es μ fun ds μ1 => ds.length = xs.length ∧ Kn (binds (xs.map (·.1)) ds ++ Δ) μ1)
    (hst : ∀ x ∈ xs, StoreOk a x.1) (hlen : xs.length ≤ 1000) (hw : swappedStores [.Tuple (xs.map fun x => Expr.Name x.1 x.2) k tpos] (.Tuple es k2 vpos) a.env = pure none := by rfl)
    (hs : swapsWithSole [.Tuple (xs.map fun x => Expr.Name x.1 x.2) k tpos] (.Tuple es k2 vpos) pos.line a.env = pure false := by rfl) (hno : noStar es = true := by rfl) : Ex1 B a Δ μ (.Assign [.Tuple (xs.map fun x => Expr.Name x.1 x.2) k tpos] (.Tuple es k2 vpos) pos) Kn Kr := fun ok C ρ s S Q E hn hr hE => by
  refine Assign_Tuple (wpAny_Tuple (evL_wp h hno ok C ρ s S _ E (fun vs ds C1 ρ1 μ1 s1 k1 c1 p1 S1 r1 => ?_) hE)) hs hw
  obtain ⟨hl, hk⟩ := k1
  have hvl := r1.length
  refine ⟨by rw [hvl, hl, sizeLine_eq]; (exact Nat.le_trans hlen (Nat.le_add_left _ _)), ?_⟩
  have hT : IsTup (s1.heap.push { cls := .type "tuple", data := .seq vs.toArray }) s1.heap.objs.size vs.toArray := ⟨_, Heap.get?_push_size _ rfl, rfl, 0, rfl⟩
  have S2 := S1.keep0 (h' := s1.heap.push { cls := .type "tuple", data := .seq vs.toArray }) (tk := s1.toks) (fun _ _ e => Heap.get?_push_of_some _ e)
  obtain ⟨e1, e2, e3⟩ := each_names (xs := xs) (env := a.env)
  refine PyProof.Rows.assign_Tuple_tuple ok.hh hT (by rw [e1, List.size_toArray, hvl, hl]) e2 fun h' he => ?_
  rw [e3]
  have S3 := S2.keep0 (h' := h') (tk := s1.toks) fun b o hb => he b o (Nat.ne_of_lt (Heap.lt_size hb)) hb
  exact wp_eachIn ok S3 (vs := vs.toArray.toList) r1 hst hl.symm fun s' S' => hn _ _ _ _ _ hk c1 p1 S'
/-- x, y = e -/
theorem Ex1.asgTupD {e : Expr} {k : Nat} {tpos : Pos} (xs : List (Str × Pos)) (h : Ev B a Δ μ e fun d μ1 => ∃ ds, d = .tuple ds ∧ ds.length = xs.length ∧ Kn (binds (xs.map (·.1)) ds ++ Δ) μ1)
    (hst : ∀ x ∈ xs, StoreOk a x.1) (hw : swappedStores [.Tuple (xs.map fun x => Expr.Name x.1 x.2) k tpos] e a.env = pure none := by rfl)
    (hs : swapsWithSole [.Tuple (xs.map fun x => Expr.Name x.1 x.2) k tpos] e pos.line a.env = pure false := by rfl) : Ex1 B a Δ μ (.Assign [.Tuple (xs.map fun x => Expr.Name x.1 x.2) k tpos] e pos) Kn Kr := fun ok C ρ s S Q E hn hr hE => by
  refine Assign_Tuple (h ok C ρ s S _ E (fun v d C1 ρ1 μ1 s1 k1 c1 p1 S1 r1 => ?_) hE) hs hw
  obtain ⟨ds, rfl, hl, hk⟩ := k1
  obtain ⟨t, vs, rfl, hT, r⟩ := Rd.isTup r1 S1.cold
  obtain ⟨e1, e2, e3⟩ := each_names (xs := xs) (env := a.env)
  refine PyProof.Rows.assign_Tuple_tuple ok.hh hT (by rw [e1, List.size_toArray, r.length, hl]) e2 fun h' he => ?_
  rw [e3]
  have S3 := S1.keep0 (h' := h') (tk := s1.toks) fun b o hb => he b o (Nat.ne_of_lt (Heap.lt_size hb)) hb
  exact wp_eachIn ok S3 (vs := vs.toArray.toList) (VAll.of r) hst hl.symm fun s' S' => hn _ _ _ _ _ hk c1 p1 S'

/-- x, y, z = e (over a clean stack), f, g -/
theorem Ex1C.asgTup {elts es : List Expr} {e : Expr} {k k2 : Nat} {tpos vpos : Pos} (names : List Str) (h : EvC B a Δ μ e fun d μ1 => EvL B a Δ es μ1 fun ds μ2 => (d :: ds).length = names.length ∧ Kn (binds names.reverse (d :: ds).reverse ++ Δ) μ2)
    (hw : swappedStores [.Tuple elts k tpos] (.Tuple (e :: es) k2 vpos) a.env = pure (some names)) (hst : ∀ x ∈ names.reverse, StoreOk a x) (hlen : names.length ≤ 1000)
    (hs : swapsWithSole [.Tuple elts k tpos] (.Tuple (e :: es) k2 vpos) pos.line a.env = pure false := by rfl) (hno : noStar (e :: es) = true := by rfl) : Ex1C B a Δ μ (.Assign [.Tuple elts k tpos] (.Tuple (e :: es) k2 vpos) pos) Kn Kr := fun ok C ρ s S Q E hn hr hE => by
  have fin : ∀ (v : Value) (d : D) (C1 : Cold) (ρ1 : List Addr) (s1 : Shared) (vs : List Value) (ds : List D) (C2 : Cold) (ρ2 : List Addr) (μ2 : List MO) (s2 : Shared), C.le C1 → ρ <+: ρ1 → VRd C1 ρ1 v d → C1.le C2 → ρ1 <+: ρ2 → ((d :: ds).length = names.length ∧ Kn (binds names.reverse (d :: ds).reverse ++ Δ) μ2) → St B a Δ C2 ρ2 μ2 s2 → VAll C2 ρ2 vs ds →
      (v :: vs).length ≤ sizeLine ∧ wpAny (model pw B.w) a.A (do rule "assign.swapped-stores"; let items ← unpackItems (.ref s2.heap.objs.size) names.length none; assignInOrder (names.reverse.map fun n => bindName a.env n) items.reverse; pure .next) Q E { s2 with heap := s2.heap.push { cls := .type "tuple", data := .seq (v :: vs).toArray } } := by
    intro v d C1 ρ1 s1 vs ds C2 ρ2 μ2 s2 c1 p1 r1 c2 p2 ⟨hl, hk⟩ S2 r2
    have rr : VAll C2 ρ2 (v :: vs) (d :: ds) := ⟨r1.mono c2 p2, r2⟩
    have hvl := rr.length
    refine ⟨by rw [hvl, hl, sizeLine_eq]; (exact Nat.le_trans hlen (Nat.le_add_left _ _)), ?_⟩
    generalize hw' : v :: vs = ws at rr hvl
    generalize hd' : d :: ds = dd at rr hvl hl hk
    have hT : IsTup (s2.heap.push { cls := .type "tuple", data := .seq ws.toArray }) s2.heap.objs.size ws.toArray := ⟨_, Heap.get?_push_size _ rfl, rfl, 0, rfl⟩
    have S3 := S2.keep0 (h' := s2.heap.push { cls := .type "tuple", data := .seq ws.toArray }) (tk := s2.toks) (fun _ _ e => Heap.get?_push_of_some _ e)
    have hsz : names.length = ws.toArray.size := by rw [List.size_toArray, hvl, hl]
    rw [hsz]
    refine wpAny_bind (wpAny_rule (wpAny_bind (unpackItems_tuple ok.hh hT fun h' he => ?_)))
    have S4 := S3.keep0 (h' := h') (tk := s2.toks) fun b o hb => he b o (Nat.ne_of_lt (Heap.lt_size hb)) hb
    exact wpAny_bind (wp_inOrder ok S4 (vs := ws.toArray.toList.reverse) (ds := dd.reverse) (VAll.rev rr) hst (by simp [hl]) fun s' S' => wpAny_pure (hn _ _ _ _ _ hk (c1.trans c2) (p1.trans p2) S'))
  rw [exec_Assign]
  refine .step (wpAny_standAt ?_)
  rw [hs]
  refine .step (wpAny_pure ?_)
  rw [if_neg (by decide), arm_eval_Tuple]
  refine .bind (.step (wpAny_standAt ?_))
  rw [starEach_cons hno]
  show wpC _ _ (spliced ((false, eval e a.env) :: backTo vpos (starEach es a.env)) >>= _) _ _ _
  rw [spliced]
  refine .bind (.bind (h ok C ρ s S _ E (fun v d C1 ρ1 μ1 s1 k1 c1 p1 S1 r1 => ?_) hE))
  simp only [Bool.false_eq_true, if_false]
  refine .step (wpAny_pure (.step (wpAny_holding ?_)))
  refine evL_wp k1 (noStar_tail hno) ok C1 ρ1 s1 S1 _ E (fun vs ds C2 ρ2 μ2 s2 k2 c2 p2 S2 r2 => ?_) (hE.mono c1)
  obtain ⟨f1, f2⟩ := fin v d C1 ρ1 s1 vs ds C2 ρ2 μ2 s2 c1 p1 r1 c2 p2 k2 S2 r2
  refine .done (.of ?_)
  refine wpAny_newObj_type ?_ ?_
  · rw [hw]
    exact .step (wpAny_pure (.of f2))
  · show ([v] ++ vs).toArray.size ≤ sizeLine; rw [List.size_toArray]; exact f1

theorem EvC.cmp {l r : Expr} {op : CmpOp} (h : EvC B a Δ μ l fun d1 μ1 => Ev B a Δ μ1 r fun d2 μ2 => Op [d1, d2] (fun vs => compareOp op (vs.getD 0 .none) (vs.getD 1 .none)) μ2 K)
    (hm : behindInMarks op r = false := by with_unfolding_all rfl) : EvC B a Δ μ (.Compare l [op] [r] pos) K := fun ok C ρ s S Q E hQ hE => by
  rw [eval_Compare1, markedBehindIn_of_false hm]
  refine .bind (h ok C ρ s S _ E (fun v1 d1 C1 ρ1 μ1 s1 k1 c1 p1 S1 r1 => .step (wpAny_holding (k1 ok C1 ρ1 s1 S1 _ E (fun v2 d2 C2 ρ2 μ2 s2 k2 c2 p2 S2 r2 => .step (wpAny_standAt (.of ?_))) (hE.mono c1)))) hE)
  have q := k2 B a Δ ok C2 ρ2 s2 [v1, v2] S2 (fun i d e => by
      match i, e with
      | 0, e => cases e; exact r1.mono c2 p2
      | 1, e => cases e; exact r2) rfl Q E (hQ.mono (c1.trans c2) (p1.trans p2) fun _ _ h => h)
  exact fun Γ p hΓ => by simp only [Sem.wp_operate]; exact q Γ p hΓ
/-- e and f -/
theorem EvC.and2 {e1 e2 : Expr} (h : EvC B a Δ μ e1 fun d μ1 => ∃ b, d = .bool b ∧ if b then EvC B a Δ μ1 e2 K else K (.bool false) μ1) : EvC B a Δ μ (.BoolOp .And [e1, e2] pos) K := fun ok C ρ s S Q E hQ hE => by
  rw [arm_eval_BoolOp]
  show wpC _ _ (boolOp pos .And [eval e1 a.env, eval e2 a.env]) _ _ _
  show wpC _ _ (do
    let v ← eval e1 a.env
    standAt pos
    let t ← holding [v] (truthy v)
    match BoolOp.And, t with
    | .And, false | .Or, true => pure v
    | _, _ => boolOp pos .And [eval e2 a.env]) _ _ _
  refine .bind (h ok C ρ s S _ E (fun v d C1 ρ1 μ1 s1 k1 c1 p1 S1 r1 => ?_) hE)
  obtain ⟨b, rfl, k1⟩ := k1
  cases Rd.boolI r1
  refine .step (wpAny_standAt (.step (wpAny_holding (wpAny_truthy_bool ?_))))
  cases b with
  | false => exact .done (hQ _ _ _ _ _ _ k1 c1 p1 S1 (.bool false))
  | true =>
    simp only [if_true] at k1
    exact k1 ok C1 ρ1 s1 S1 Q E (hQ.mono c1 p1 fun _ _ h => h) (hE.mono c1)
end
/-! C9 -/
/-! bodies that let no fault out, whatever the frames -/
noncomputable def Ex1Q (B : Bs) (a : Act) (Δ : DE) (μ : List MO) (st : Stmt) (Kn : DE → List MO → Prop) (Kr : D → List MO → Prop) : Prop :=
  ActOk B a → ∀ C ρ s, St B a Δ C ρ μ s → ∀ Q E,
    (∀ Δ' C' ρ' μ' s', Kn Δ' μ' → C.le C' → ρ <+: ρ' → St B a Δ' C' ρ' μ' s' → Q .next s') →
    (∀ v d Δ' C' ρ' μ' s', Kr d μ' → C.le C' → ρ <+: ρ' → St B a Δ' C' ρ' μ' s' → VRd C' ρ' v d → Q (.ret v) s') →
    wpC (model pw B.w) a.A (exec st a.env) Q E s
noncomputable def ExQ (B : Bs) (a : Act) (Δ : DE) (μ : List MO) (ss : List Stmt) (Kn : DE → List MO → Prop) (Kr : D → List MO → Prop) : Prop :=
  ActOk B a → ∀ C ρ s, St B a Δ C ρ μ s → ∀ Q E,
    (∀ Δ' C' ρ' μ' s', Kn Δ' μ' → C.le C' → ρ <+: ρ' → St B a Δ' C' ρ' μ' s' → Q .next s') →
    (∀ v d Δ' C' ρ' μ' s', Kr d μ' → C.le C' → ρ <+: ρ' → St B a Δ' C' ρ' μ' s' → VRd C' ρ' v d → Q (.ret v) s') →
    wpC (model pw B.w) a.A (execs ss a.env) Q E s
section
variable {B : Bs} {a : Act} {Δ : DE} {μ : List MO} {K : D → List MO → Prop} {Kn : DE → List MO → Prop} {Kr : D → List MO → Prop} {pos p : Pos}
theorem ExQ.one {st : Stmt} (h : Ex1Q B a Δ μ st Kn Kr) : ExQ B a Δ μ [st] Kn Kr := fun ok C ρ s S Q E hn hr => by
  rw [execs_cons]
  refine .bind (h ok C ρ s S _ E (fun Δ1 C1 ρ1 μ1 s1 k1 c1 p1 S1 => ?_) (fun v d Δ1 C1 ρ1 μ1 s1 k1 c1 p1 S1 r1 => ?_))
  · exact .of (wpAny_execs_nil (hn _ _ _ _ _ k1 c1 p1 S1))
  · exact .done (hr v d Δ1 C1 ρ1 μ1 s1 k1 c1 p1 S1 r1)

theorem wpC.tryExcept {M : Model} {A : Around} {E : Value → Shared → Prop} {s : Shared} {env : Env} {body orelse : Sem Flow} {h₀ : ExceptHandler} {hs : List ExceptHandler} {Q : Flow → Shared → Prop}
    (h : wpC M A body (fun f s₁ => f ≠ .next ∧ Q f s₁) (fun e s₁ => wpAny M A (noteFrame e env) (fun _ s₂ => wpAny M A (setFlight e none) (fun _ s₃ => wpAny M A (handleBy e env (h₀ :: hs)) Q E s₃) E s₂) E s₁) s) :
    wpC M A (tryStmt false body (h₀ :: hs) orelse [] env) Q E s := by
  show wpC M A (Bind.bind (Sem.attempt body) _) Q E s
  refine .bind (.attempt (h.mono (fun f s1 h1 => ?_) fun e s1 h1 => .of ?_))
  · cases f with
    | next => exact absurd rfl h1.1
    | brk => exact .done h1.2
    | cont => exact .done h1.2
    | ret v => exact .done h1.2
  · exact wpAny_bind (wpAny_mono h1 (fun _ _ h₂ => wpAny_bind h₂) fun _ _ x => x)
theorem caught {kk : Nat} {q3 q4 q5 q6 : Pos} (ok : ActOk B a) (hW : a.W = []) (hits : a.its = []) {l : List Env} (hfr : a.fr = some l) (hxs : a.env.kindOf "SheetFault" = some .globalImplicit)
    {C1 : Cold} {ρ1 : List Addr} {s1 : Shared} (S1 : St B a Δ C1 ρ1 [] s1) {e : Addr} {s2 : Shared} (b2 : Base B s2) (fo : FaultOut B (sfC B) (a.env :: l) (snapC C1 s1.heap none) e s2.heap)
    {Q : Flow → Shared → Prop} {E : Value → Shared → Prop} (hQ : ∀ s', St B a [] C1 ρ1 [] s' → Q (.ret .none) s') :
    wpAny (model pw B.w) a.A (noteFrame (.ref e) a.env) (fun _ s₂ => wpAny (model pw B.w) a.A (setFlight (.ref e) none) (fun _ s₃ => wpAny (model pw B.w) a.A (handleBy (.ref e) a.env [.ExceptHandler (some (.Name "SheetFault" q3)) none [.Return (some (.Constant .none kk q4)) q5] q6]) Q E s₃) E s₂) E s2 := by
  refine ok.st.sf _ fun Cc N Mm fI cM ddM cdM slM mN mM nm qq bs sn sub ab col dd k0 k1 k2 k3 k5 hsf T I => ?_
  have hsfC : sfC B = .ref Cc := by unfold sfC; rw [hsf]; rfl
  refine fault_note (ok.fr l hfr).1 (ok.fr l hfr).2 fo.at fun h3 Bh a0 kk3 hh => ?_
  have f3 := fl_of hh
  refine fl_none f3 fun h4 f4 u4 => ?_
  have ci4 := in_upTo' kk3.2.1 kk3.2.2 f4.1 u4
  have toB : ∀ h, Bh.StaysIn h → Base B { s2 with heap := h } := fun h st => b2.to (tk := s2.toks) fun c o e => st _ _ (kk3.1 c o e)
  have b4 : Base B { s2 with heap := h4 } := toB _ f4.1
  have T4 := T.keeps (h' := h4) fun _ _ e => b4.keep _ _ e
  have mB : (Value.ref Mm :: exMro).contains (.type "BaseException") = true := by rw [List.contains_cons, show exMro.contains (.type "BaseException") = true from PySem.F.excBase_Exception.hasBase, Bool.or_true]
  refine wpAny_handleBy_cons (codeAny_handlers_test (wp_globalB ok b4 hxs hsf ?_)) (by intro q; cases q)
  obtain ⟨_, oe, vs, T0, oT, ts, he, hcls, _⟩ := id f4
  refine wpAny_excMatches_sub_self T4.hC he (hcls.trans hsfC) mB ?_
  refine codeAny_handlers_suite (fl_none f4 fun h5 f5 u5 => ?_)
  refine wpAny_execs_cons (wpAny_Return_some (wpAny_Constant_none ?_))
  have ci5 := in_upTo' kk3.2.1 ci4 f5.1 u5
  have S5 : St B a [] C1 ρ1 [] { s2 with heap := h5 } := {
    base := toB _ f5.1
    cold := ci5.mono snap_le
    mu := by
      have : ρ1 = [] := List.length_eq_zero_iff.mp (by rw [S1.mu.len]; rfl)
      rw [this]; exact Mu.nil
    nL := S1.nL
    bL := S1.bL
    nW := fun p hp => by rw [hW] at hp; cases hp
    ns := by
      obtain ⟨m, ⟨oL, es, ep, hoL, hdL, hrest⟩, _⟩ := S1.ns
      obtain ⟨o', ho', _, h2, _⟩ := ci5 _ _ (snap_of S1.nL (by simp) hoL)
      exact ⟨m, ⟨o', es, ep, ho', h2.trans hdL, hrest⟩, fun x d e => by cases e⟩
    outer := S1.outer
    its := fun p hp => by rw [hits] at hp; cases hp
    itn := by rw [hits]; exact .nil }
  exact hQ _ S5

theorem Ex1Q.tryCall {f x : Str} {d : D} {n k kk : Nat} {flt : Bool} {q0 q1 q2 q3 q4 q5 q6 : Pos} (hlx : Δ.lookup x = some d) (ht : d.tree = true) (hc : FnC B f n flt [d] fun d => Kr d []) (hN : flt = true → Kr .none [])
    (hW : a.W = []) (hits : a.its = []) {l : List Env} (hfr : a.fr = some l)
    (hx : a.env.kindOf f = some .globalImplicit := by rfl) (hxs : a.env.kindOf "SheetFault" = some .globalImplicit := by rfl) (hk : fnTab.lookup f = some k := by rfl) (hn : n + 1 ≤ a.n := by decide)
    (hd : (f == ("__debug__" : Str)) = false := by rfl) (hdx : (x == ("__debug__" : Str)) = false := by rfl) :
    Ex1Q B a Δ [] (.Try [.Return (some (.Call (.Name f p) [.Name x q0] [] q1)) q2] [.ExceptHandler (some (.Name "SheetFault" q3)) none [.Return (some (.Constant .none kk q4)) q5] q6] [] [] pos) Kn Kr := fun ok C ρ s S Q E hQn hQr => by
  refine ok.st.fnE hk fun fa hfa o fd ho _ hd' _ _ _ _ _ _ _ _ _ _ => ?_
  obtain ⟨fa', o', fd', hfa', _, _, hc⟩ := hc
  rw [hfa] at hfa'; cases hfa'
  rw [arm_exec_Try]
  refine .step (wpAny_standAt (.tryExcept ?_))
  rw [execs_cons, exec_Return_some]
  refine .bind (.step (wpAny_standAt (.bind ?_)))
  show wpC _ _ (do callWith q1 (← eval (.Name f p) a.env) [] (backTo q1 (starEach [.Name x q0] a.env)) (backToKw q1 (keywordEach [] a.env))) _ _ s
  refine .step (wp_global ok S hx hfa ?_ hd)
  refine .callFn (o := o) (fd := fd) (Calls.evalArgs_plain (Calls.spliced_cons (wpAny_Name (wp_name ok S hlx fun v hv => Calls.spliced_nil ?_) hdx)))
  refine ⟨⟨S.base.keep _ _ ho, hd'⟩, .call (hc a.A ok.hh (ok.room.le (by (exact Nat.lt_succ_of_lt hn))) (snapC C s.heap none) s [v] S.base (snap_in S.cold) ((RdAll.one (hv.rd ht)).mono snap_le) (fun _ => ⟨_, (ok.fr l hfr).1, outer_call ok S hfr⟩) _ (fun v d C2 s2 hK htr le b2 ci r2 => ?_) fun hflt l' e s2 hA b2 fo => ?_)⟩
  · obtain ⟨cle, S2⟩ := S.back le b2 ci (.inl ⟨rfl, rfl⟩)
    exact .done (.done ⟨by simp, hQr _ d _ _ _ _ _ hK cle List.prefix_rfl S2 (.of (filt_rd r2))⟩)
  · rw [(ok.fr l hfr).1] at hA; cases hA
    exact caught ok hW hits hfr hxs S b2 fo fun s' S' => hQr _ .none [] C ρ [] _ (hN hflt) (.refl _) List.prefix_rfl S' .none
end

section
variable {B : Bs} {f : Str} {k n : Nat}
theorem enterQ {A : Around} {fa : Addr} {o : Obj} {fd : FuncData} {C : Cold} {ρ : List Addr} {μ : List MO} {s : Shared} {vs : List Value} {ds : List D} {Δ : DE} {fr : Option (List Env)} {R : Result → Shared → Prop} {Kn : DE → List MO → Prop} {Kr : D → List MO → Prop}
    (st : Stat B) (hA : A.handled = none) (room : Room A (n + 2)) (b : Base B s) (ci : C.In s.heap) (M : Mu B C ρ μ s.heap) (rv : VAll C ρ vs ds) (hmg : B.mg f = some (.ref fa)) (ho : B.s₀.heap.get? fa = some o) (hd : o.data = .func fd) (hcd : B.s₀.heap.CodeRec fd.code fd.qualname) (hq : fd.qualname = f)
    (hp : fd.params = (fx k).1) (hbody : fd.body = .stmts (fx k).2.1) (hsc : fd.scope = (fx k).2.2) (hgl : fd.globals = mainGlobals) (hclo : fd.closure = []) (hbu : fd.builtins = builtinsNs) (hkd : fd.kwdefaults = .none) (hdf : DfOk B k fd.defaults)
    (hb : Binds B k ds Δ) {ns : List Str} (hns : Δ.map (·.1) = ns) (hg : goodNames k ns = true) (hfr : ∀ l, fr = some l → A.frames = some l ∧ OuterOk B C l)
    (body : ∀ L cd, ExQ B (actF A k f L fa cd fr n) Δ μ (fx k).2.1 Kn Kr)
    (hn : ∀ Δ' C' ρ' μ' s', Kn Δ' μ' → C.le C' → ρ <+: ρ' → Base B s' → C'.In s'.heap → Mu B C' ρ' μ' s'.heap → R (.ok (.ret .none)) s')
    (hr : ∀ v d C' ρ' μ' s', Kr d μ' → C.le C' → ρ <+: ρ' → Base B s' → C'.In s'.heap → Mu B C' ρ' μ' s'.heap → VRd C' ρ' v d → R (.ok (.ret v)) s') :
    codeC (model pw B.w) A (.call (.ref fa) ⟨vs, []⟩) R s := by
  simp only [goodNames, Bool.and_eq_true, decide_eq_true_eq, Bool.not_eq_true', beq_iff_eq] at hg
  obtain ⟨⟨⟨⟨⟨g1, g2⟩, g3⟩, g4⟩, g5⟩, g6⟩ := hg
  subst hns
  obtain ⟨binds, hbind, ba⟩ := hb fd hp hkd hdf C ρ s vs b ci rv
  have lim : s.heap.NoLimit := st.lim.keeps fun _ _ e => b.keep _ _ e
  obtain ⟨name, qual, params, fbody, scope, globals, closure, dV, kV, doc, pm, an, cd, ct, bu⟩ := fd
  dsimp only at hq hp hbody hsc hgl hclo hbu hcd
  subst hq hp hbody hsc hgl hclo hbu
  refine codeC.callDef room.depth (b.keep _ _ ho) hd g4 g5 rfl (hcd.keeps fun _ _ e => b.keep _ _ e) (hbind _ _ _ _ ?_)
  have kinds : ∀ x ∈ binds, (fx k).2.2.names.lookup x.1 = some .local ∨ ((fx k).2.2.names.lookup x.1 = some .cell ∧ ((cellsFrom (s.heap.objs.size + 1) (fx k).2.2.names []).lookup x.1).isSome = true) := fun x hx => by
    have hm : x.1 ∈ Δ.map (·.1) := by rw [← ba.names]; exact List.mem_map_of_mem hx
    have q := List.all_eq_true.mp g2 x.1 hm
    simp only [Bool.or_eq_true, beq_iff_eq] at q
    rcases q with q | q
    · exact .inl q
    · exact .inr ⟨q, cellsFrom_some _ _ _ (.inl q)⟩
  refine wpAny_newFunctionEnv_cells g6 kinds fun env henv s' x => ?_
  subst henv
  have hk := x.toInCall.keep
  refine ⟨lim.keeps hk, codeC.func ?_⟩
  obtain ⟨h₁, tk, rfl⟩ := x.toInCall.same
  have b' : Base B { s with heap := h₁, toks := tk } := b.to fun c o e => hk c o (b.keep c o e)
  have fresh : ∀ c, s.heap.objs.size ≤ c → C c = none ∧ B.s₀.heap.get? c = none := fun c hc => by
    refine ⟨?_, ?_⟩
    · cases e : C c with
      | none => rfl
      | some p => exact absurd (ci.lt e) (Nat.not_lt.mpr hc)
    · cases e : B.s₀.heap.get? c with
      | none => rfl
      | some p => exact absurd (Heap.lt_size (b.keep _ _ e)) (Nat.not_lt.mpr hc)
  have S : St B (actF A k qual s.heap.objs.size fa cd fr n) Δ C ρ μ { s with heap := h₁, toks := tk } := {
    base := b'
    cold := ci.keeps hk
    mu := M.keeps (s := s) (.refl _) (fun c _ o e => hk c o e) fun i c o e f l => (M.new i c o e f l).1
    nL := (fresh _ (Nat.le_refl _)).1
    bL := (fresh _ (Nat.le_refl _)).2
    nW := fun p hp => by
      have h1 : s.heap.objs.size < p.2 := x.above p.1 p.2 hp
      refine ⟨(fresh _ (Nat.le_of_lt h1)).1, (fresh _ (Nat.le_of_lt h1)).2, _, x.cell p.1 p.2 (lookup_of_mem_nodup ?_ hp)⟩
      exact cellsFrom_names (fx k).2.2.names 0 (s.heap.objs.size + 1) [] [] rfl ▸ g3
    ns := ⟨_, x.toInCall.ns, fun y d e => by
      obtain ⟨v, hv, h1, h2⟩ := bound (kd := Env.kindOf (envF k qual s.heap.objs.size fa cd)) (m := fun _ => none) (cm := fun _ => none) ba g1 e
      refine ⟨v, hv, ?_⟩
      have hm : y ∈ Δ.map (·.1) := by
        have := mem_of_lookup e
        exact List.mem_map.mpr ⟨(y, d), this, rfl⟩
      have q := List.all_eq_true.mp g2 y hm
      simp only [Bool.or_eq_true, beq_iff_eq] at q
      rcases q with q | q
      · exact .inl ⟨q, h1 q⟩
      · obtain ⟨c, hc⟩ := Option.isSome_iff_exists.mp (cellsFrom_some (fx k).2.2.names (s.heap.objs.size + 1) [] (.inl q))
        have hnl : Env.kindOf (envF k qual s.heap.objs.size fa cd) y ≠ some .local := by show (fx k).2.2.names.lookup y ≠ some .local; rw [q]; decide
        have hh := h2 hnl
        have this : h₁.IsCell c (bindC (Env.kindOf (envF k qual s.heap.objs.size fa cd)) binds (fun _ => none) y) := x.cell y c hc
        rw [hh] at this
        exact .inr ⟨q, c, hc, this⟩⟩
    outer := fun l e => (hfr l e).2
    its := fun p hp => nomatch hp
    itn := .nil }
  have ok : ActOk B (actF A k qual s.heap.objs.size fa cd fr n) := {
    st := st, hh := hA, room := room.deeper _, kind := g6, gl := rfl, bu := rfl
    apart := fun y z c h1 h2 => name_of_addr x.apart (mem_of_lookup h1) (mem_of_lookup h2)
    W := fun y c hm => lookup_of_mem_nodup (cellsFrom_names (fx k).2.2.names 0 (s.heap.objs.size + 1) [] [] rfl ▸ g3) hm
    fr := fun l e => ⟨Around.frames_deeper (hfr l e).1, rfl⟩ }
  exact body _ cd ok C ρ _ S _ _ (fun Δ' C' ρ' μ' s' k1 c1 p1 S1 => hn Δ' C' ρ' μ' s' k1 c1 p1 S1.base S1.cold S1.mu) (fun v d Δ' C' ρ' μ' s' k1 c1 p1 S1 r1 => hr v d C' ρ' μ' s' k1 c1 p1 S1.base S1.cold S1.mu r1)
noncomputable def FnQ (B : Bs) (f : Str) (n : Nat) (ds : List D) (P : D → Prop) : Prop :=
  ∃ fa o fd, B.mg f = some (.ref fa) ∧ B.s₀.heap.get? fa = some o ∧ o.data = .func fd ∧ ∀ A, A.handled = none → Room A (n + 1) → ∀ C s vs, Base B s → C.In s.heap → RdAll C vs ds →
    (∃ l, A.frames = some l ∧ OuterOk B C l) → ∀ R : Result → Shared → Prop,
    (∀ v d C' s', P d → d.tree = true → C.le C' → Base B s' → C'.In s'.heap → Rd C' v d → R (.ok (.ret v)) s') →
    codeC (model pw B.w) A (.call (.ref fa) ⟨vs, []⟩) R s
theorem FnQ.of {ds : List D} {Δ : DE} {P : D → Prop} (st : Stat B) (hk : fnTab.lookup f = some k) (hb : Binds B k ds Δ) {ns : List Str} (hns : Δ.map (·.1) = ns) (hg : goodNames k ns = true)
    (body : ∀ A L fa cd l, ExQ B (actF A k f L fa cd (some l) n) Δ [] (fx k).2.1 (fun _ _ => P .none) (fun d _ => d.tree = true ∧ P d)) : FnQ B f (n + 1) ds P := by
  refine st.fnE hk fun fa hmg o fd ho hc hd hcd hq hp hbody hsc hgl hclo hbu hkd hdf => ?_
  refine ⟨fa, o, fd, hmg, ho, hd, fun A hA room C s vs b ci r hfr R hR => ?_⟩
  obtain ⟨l, hl, hou⟩ := hfr
  exact enterQ st hA room b ci Mu.nil (VAll.of r) hmg ho hd hcd hq hp hbody hsc hgl hclo hbu hkd hdf hb hns hg (fr := some l) (fun _ e => by cases e; exact ⟨hl, hou⟩) (fun L cd => body A L fa cd l) (fun Δ' C' ρ' μ' s' k1 c1 p1 b1 ci1 _ => hR _ _ _ _ k1 rfl c1 b1 ci1 .none)
    (fun v d C' ρ' μ' s' k1 c1 p1 b1 ci1 _ r1 => hR _ _ _ _ k1.2 k1.1 c1 b1 ci1 (r1.rd k1.1))
end
section
variable {B : Bs} {a : Act} {Δ : DE} {μ : List MO} {K : D → List MO → Prop} {pos p : Pos}
theorem callQ_done {f : Str} {n : Nat} {C1 : Cold} {ρ1 : List Addr} {μ1 : List MO} {s1 : Shared} {vs : List Value} {ds : List D} {Q : Value → Shared → Prop} {E : Value → Shared → Prop} (ok : ActOk B a) (ht : ds.all D.tree = true) (F : FnQ B f n ds fun d => K d μ1)
    (hn : n + 1 ≤ a.n) (hA : a.A.frames = some [a.env]) (hL : a.env.frame = some a.env.locals) (S1 : St B a Δ C1 ρ1 μ1 s1) (r1 : VAll C1 ρ1 vs ds) {fa : Addr} (hfa : B.mg f = some (.ref fa)) (hQ : Nx B a Δ C1 ρ1 K Q) : wpC (model pw B.w) a.A (PySem.call (.ref fa) vs) Q E s1 := by
  obtain ⟨fa', o, fd, hfa', ho, hd, hc⟩ := F
  rw [hfa] at hfa'; cases hfa'
  refine .call (hc a.A ok.hh (ok.room.le (by (grind))) (snapC C1 s1.heap none) s1 vs S1.base (snap_in S1.cold) ((r1.rd ht).mono snap_le) ⟨_, hA, fun env he => ?_⟩ _ (fun v d C2 s2 hK htr le b2 ci r2 => ?_))
  · rcases List.mem_cons.mp he with rfl | he
    · obtain ⟨m, ⟨oL, es, ep, hoL, hdL, _⟩, _⟩ := S1.ns
      exact ⟨by rw [ok.kind]; decide, a.env.locals, _, hL, S1.bL, snap_of S1.nL (by simp) hoL, _, _, hdL⟩
    · cases he
  · obtain ⟨cle, S2⟩ := S1.back le b2 ci (.inl ⟨rfl, rfl⟩)
    exact hQ _ _ _ _ _ _ hK cle List.prefix_rfl S2 (.of (filt_rd r2))
theorem EvC.callQ {f : Str} {es : List Expr} {n k : Nat} (hA : a.A.frames = some [a.env]) (hL : a.env.frame = some a.env.locals) (h : EvL B a Δ es μ fun ds μ1 => ds.all D.tree = true ∧ FnQ B f n ds fun d => K d μ1) (hx : a.env.kindOf f = some .globalImplicit := by rfl) (hk : fnTab.lookup f = some k := by rfl) (hn : n + 1 ≤ a.n := by decide)
    (hne : es ≠ [] := by simp) (hs : noStar es = true := by rfl) (hd : (f == ("__debug__" : Str)) = false := by rfl) :
    EvC B a Δ μ (.Call (.Name f p) es [] pos) K := fun ok C ρ s S Q E hQ hE => by
  obtain ⟨e, r, rfl⟩ : ∃ e r, es = e :: r := by cases es with | nil => exact absurd rfl hne | cons e r => exact ⟨e, r, rfl⟩
  refine ok.st.fnE hk fun fa hfa o fd ho _ hd' _ _ _ _ _ _ _ _ _ _ => ?_
  show wpC _ _ (do callWith pos (← eval (.Name f p) a.env) [] (backTo pos (starEach (e :: r) a.env)) (backToKw pos (keywordEach [] a.env))) Q E s
  refine .step (wp_global ok S hx hfa ?_ hd)
  refine .callFn (o := o) (fd := fd) ?_
  rw [starEach_cons hs]
  have q := evL_wp (ps := pos) h hs ok C ρ s S (fun vs s1 => (s1.heap.get? fa = some o ∧ o.data = .func fd) ∧ wpC (model pw B.w) a.A (PySem.call (.ref fa) vs) Q E s1) E (fun vs ds C1 ρ1 μ1 s1 k1 c1 p1 S1 r1 =>
    ⟨⟨S1.base.keep _ _ ho, hd'⟩, callQ_done ok k1.1 k1.2 hn hA hL S1 r1 hfa (hQ.mono c1 p1 fun _ _ h => h)⟩) hE
  rw [starEach_cons hs] at q
  exact Calls.evalArgs_plain q
end
/-! B16 -/
open SeqAt

inductive DEq : Nat → D → Prop
  | int (n : Nat) (i : Int) : DEq n (.int i)
  | str (n : Nat) (x : Str) : DEq n (.str x)
  | list {n : Nat} {ds : List D} : (∀ d ∈ ds, DEq n d) → DEq (n + 1) (.list ds)
  | tuple {n : Nat} {ds : List D} : (∀ d ∈ ds, DEq n d) → DEq (n + 1) (.tuple ds)
theorem all_true (n : Nat) : ((List.range n).all fun _ => true) = true := by simp
theorem IsTup.tuple {h : Heap} {l : Addr} {vs : Array Value} (x : IsTup h l vs) : h.IsTuple l vs := x
theorem eq_data {C : Cold} {n : Nat} {d : D} (h : DEq n d) : ∀ {A : Around} {s : Shared} {v w : Value}, C.In s.heap → Rd C v d → Rd C w d → A.units + n < cLine → EqAt A s v w true := by
  induction h with
  | int n i => intro A s v w ci r q hu; obtain ⟨t, rfl⟩ := r.intI; obtain ⟨u, rfl⟩ := q.intI; have := SeqAt.EqAt.int_int (A := A) (s := s) i t i u; rwa [beq_self_eq_true] at this
  | str n x => intro A s v w ci r q hu; obtain ⟨t, rfl⟩ := r.strI; obtain ⟨u, rfl⟩ := q.strI; have := SeqAt.EqAt.str_str (A := A) (s := s) x t x u; rwa [beq_self_eq_true] at this
  | @list n ds hds ih =>
    intro A s v w ci r q hu
    obtain ⟨l, vs, rfl, hl, rr⟩ := Rd.isList r ci
    obtain ⟨b, ws, rfl, hb, qq⟩ := Rd.isList q ci
    by_cases e : l = b
    · subst e; exact .same _
    have key := RcAt.lists (A := A) (s := s) (e := fun _ => true) hl hb (by rw [List.size_toArray, List.size_toArray, rr.length, qq.length]) (by (exact ob29 hu)) fun j h1 h2 => by
      obtain ⟨d, hd, r1⟩ := rr.getv (k := j) (v := vs.toArray[j]) (by simp)
      obtain ⟨d', hd', r2⟩ := qq.getv (k := j) (v := ws.toArray[j]) (by simp)
      rw [hd] at hd'; cases hd'
      exact ih d (List.mem_of_getElem? hd) ci r1 r2 (by show A.units + 1 + n < cLine; (exact ob30 hu))
    rw [all_true] at key
    exact .of_refs e key
  | @tuple n ds hds ih =>
    intro A s v w ci r q hu
    obtain ⟨l, vs, rfl, hl, rr⟩ := Rd.isTup r ci
    obtain ⟨b, ws, rfl, hb, qq⟩ := Rd.isTup q ci
    by_cases e : l = b
    · subst e; exact .same _
    have key := RcAt.tuples (A := A) (s := s) (e := fun _ => true) (IsTup.tuple hl) (IsTup.tuple hb) (by (grind)) fun j h1 h2 => by
      obtain ⟨d, hd, r1⟩ := rr.getv (k := j) (v := vs.toArray[j]) (by simp)
      obtain ⟨d', hd', r2⟩ := qq.getv (k := j) (v := ws.toArray[j]) (by simp)
      rw [hd] at hd'; cases hd'
      exact ih d (List.mem_of_getElem? hd) ci r1 r2 (by show A.units + 1 + n < cLine; (exact ob30 hu))
    rw [all_true, List.size_toArray, List.size_toArray, rr.length, qq.length, beq_self_eq_true, Bool.and_self] at key
    exact .of_refs e key

section
variable {μ : List MO} {K : D → List MO → Prop}
theorem Op.eqL {n : Nat} {ds : List D} (hd : ∀ d ∈ ds, DEq n d) (hn : n ≤ 100) (h : K (.bool true) μ) : Op [.list ds, .list ds] (fun vs => compareOp .Eq (vs.getD 0 .none) (vs.getD 1 .none)) μ K :=
  Op.two fun B a Δ ok C ρ s v w S hv hw Q E hQ => by
    obtain ⟨l, vs, rfl, hl, rr⟩ := Rd.isList hv S.cold
    obtain ⟨b, ws, rfl, hb, qq⟩ := Rd.isList hw S.cold
    have hu := ok.room.units
    refine eq_listAt (e := fun _ => true) hl hb (by rw [List.size_toArray, List.size_toArray, rr.length, qq.length]) (by (exact ob31 hu)) (fun j h1 h2 => ?_) (by rw [all_true]; exact hQ _ _ _ _ _ _ h (.refl _) List.prefix_rfl S (.bool _))
    obtain ⟨d, hd', r1⟩ := rr.getv (k := j) (v := vs.toArray[j]) (by simp)
    obtain ⟨d', hd'', r2⟩ := qq.getv (k := j) (v := ws.toArray[j]) (by simp)
    rw [hd'] at hd''; cases hd''
    exact eq_data (hd d (List.mem_of_getElem? hd')) S.cold r1 r2 (by show a.A.units + 1 + n < cLine; (exact ob32 hn hu))
theorem Op.eqT {n : Nat} {ds : List D} (hd : ∀ d ∈ ds, DEq n d) (hn : n ≤ 100) (h : K (.bool true) μ) : Op [.tuple ds, .tuple ds] (fun vs => compareOp .Eq (vs.getD 0 .none) (vs.getD 1 .none)) μ K :=
  Op.two fun B a Δ ok C ρ s v w S hv hw Q E hQ => by
    obtain ⟨l, vs, rfl, hl, rr⟩ := Rd.isTup hv S.cold
    obtain ⟨b, ws, rfl, hb, qq⟩ := Rd.isTup hw S.cold
    have hu := ok.room.units
    refine eq_tupleAt (e := fun _ => true) (IsTup.tuple hl) (IsTup.tuple hb) (by (exact ob31 hu)) (fun j h1 h2 => ?_) (by rw [all_true, List.size_toArray, List.size_toArray, rr.length, qq.length, beq_self_eq_true, Bool.and_self]; exact hQ _ _ _ _ _ _ h (.refl _) List.prefix_rfl S (.bool _))
    obtain ⟨d, hd', r1⟩ := rr.getv (k := j) (v := vs.toArray[j]) (by simp)
    obtain ⟨d', hd'', r2⟩ := qq.getv (k := j) (v := ws.toArray[j]) (by simp)
    rw [hd'] at hd''; cases hd''
    exact eq_data (hd d (List.mem_of_getElem? hd')) S.cold r1 r2 (by show a.A.units + 1 + n < cLine; (exact ob32 hn hu))
theorem Op.neL {n : Nat} {ds : List D} (hd : ∀ d ∈ ds, DEq n d) (hn : n ≤ 100) (h : K (.bool false) μ) : Op [.list ds, .list ds] (fun vs => compareOp .NotEq (vs.getD 0 .none) (vs.getD 1 .none)) μ K :=
  Op.two fun B a Δ ok C ρ s v w S hv hw Q E hQ => by
    obtain ⟨l, vs, rfl, hl, rr⟩ := Rd.isList hv S.cold
    obtain ⟨b, ws, rfl, hb, qq⟩ := Rd.isList hw S.cold
    have hu := ok.room.units
    refine RcNeAt.lists (e := fun _ => true) hl hb (by rw [List.size_toArray, List.size_toArray, rr.length, qq.length]) (by (exact ob31 hu)) (fun j h1 h2 => ?_) _ _ _ _ (by rw [all_true]; exact hQ _ _ _ _ _ _ h (.refl _) List.prefix_rfl S (.bool _))
    obtain ⟨d, hd', r1⟩ := rr.getv (k := j) (v := vs.toArray[j]) (by simp)
    obtain ⟨d', hd'', r2⟩ := qq.getv (k := j) (v := ws.toArray[j]) (by simp)
    rw [hd'] at hd''; cases hd''
    exact eq_data (hd d (List.mem_of_getElem? hd')) S.cold r1 r2 (by show a.A.units + 1 + n < cLine; (exact ob32 hn hu))
/-- names == [] -/
theorem Op.eqNil {ds : List D} (h : K (.bool ds.isEmpty) μ) : Op [.list ds, .list []] (fun vs => compareOp .Eq (vs.getD 0 .none) (vs.getD 1 .none)) μ K :=
  Op.two fun B a Δ ok C ρ s v w S hv hw Q E hQ => by
    obtain ⟨l, vs, rfl, hl, rr⟩ := Rd.isList hv S.cold
    obtain ⟨b, ws, rfl, hb, qq⟩ := Rd.isList hw S.cold
    have hu := ok.room.units
    have l1 := rr.length
    have l2 := qq.length
    rw [List.length_nil] at l2
    cases ds with
    | nil =>
      refine eq_listAt (e := fun _ => true) hl hb (by rw [List.size_toArray, List.size_toArray, l1, l2]; rfl) (by (exact ob31 hu)) (fun j h1 h2 => ?_) (by rw [all_true]; exact hQ _ _ _ _ _ _ h (.refl _) List.prefix_rfl S (.bool _))
      rw [List.size_toArray, l2] at h2; exact absurd h2 (Nat.not_lt_zero _)
    | cons d ds =>
      refine eq_list_lengthsAt hl hb (by rw [List.size_toArray, List.size_toArray, l1, l2]; simp) (by (exact ob31 hu)) (hQ _ _ _ _ _ _ h (.refl _) List.prefix_rfl S (.bool _))
theorem any_isStr (k : Str) {vs : List Value} {ys : List Str} (h : StrsAre vs ys) : vs.any (isStrOf k) = ys.contains k := by
  induction h with
  | nil => rfl
  | cons n u h ih =>
    rw [List.any_cons, List.contains_cons, ih]
    exact congrArg (· || _) (Bool.beq_comm (a := n) (b := k))
theorem Op.notIn {k : Str} {ys : List Str} (h : K (.bool (!ys.contains k)) μ) : Op [.str k, .list (ys.map .str)] (fun vs => compareOp .NotIn (vs.getD 0 .none) (vs.getD 1 .none)) μ K :=
  Op.two fun B a Δ ok C ρ s v w S hv hw Q E hQ => by
    obtain ⟨_, rfl⟩ := Rd.strI hv
    obtain ⟨l, vs, rfl, hl, rr⟩ := Rd.isList hw S.cold
    have hs := rd_strs rr
    refine notIn_listAt (isStrOf k) hl (fun y hy => (eq_isStrOf k _ hs y (by simpa using hy)).at _ _) ?_
    have e : vs.toArray.any (isStrOf k) = ys.contains k := by rw [← any_isStr k hs]; simp
    rw [e]
    exact hQ _ _ _ _ _ _ h (.refl _) List.prefix_rfl S (.bool _)
theorem Op.isNone {d : D} {b : Bool} (hb : (d = .none ∧ b = true) ∨ ((∃ ds, d = .tuple ds) ∧ b = false)) (h : K (.bool b) μ) : Op [d, .none] (fun vs => compareOp .Is (vs.getD 0 .none) (vs.getD 1 .none)) μ K :=
  Op.two fun B a Δ ok C ρ s v w S hv hw Q E hQ => by
    cases Rd.noneI hw
    refine PySem.is_none ?_
    rcases hb with ⟨rfl, rfl⟩ | ⟨⟨ds, rfl⟩, rfl⟩
    · cases Rd.noneI hv; exact hQ _ _ _ _ _ _ h (.refl _) List.prefix_rfl S (.bool true)
    · obtain ⟨l, vs, rfl, hl, rr⟩ := Rd.isTup hv S.cold
      exact hQ _ _ _ _ _ _ h (.refl _) List.prefix_rfl S (.bool false)
end

section
variable {B : Bs} {a : Act} {Δ : DE} {μ : List MO} {K : D → List MO → Prop} {pos p : Pos} {Kn : DE → List MO → Prop} {Kr : D → List MO → Prop}
theorem Ev.gint {x : Str} {i : Int} (e : gInts.lookup x = some i) (h : K (.int i) μ) (hx : a.env.kindOf x = some .globalImplicit := by rfl) (hd : (x == ("__debug__" : Str)) = false := by rfl) : Ev B a Δ μ (.Name x pos) K := fun ok C ρ s S Q E hQ _ => by
  obtain ⟨t, ht⟩ := ok.st.gi x i e
  exact wp_global ok S hx ht (hQ _ _ _ _ _ _ h (.refl _) List.prefix_rfl S (.int _ _)) hd
theorem Ev.gsign (h : K (.bytes [137, 80, 78, 71, 13, 10, 26, 10]) μ) (hx : a.env.kindOf "SIGN" = some .globalImplicit := by rfl) : Ev B a Δ μ (.Name "SIGN" pos) K := fun ok C ρ s S Q E hQ _ => by
  obtain ⟨t, ht⟩ := ok.st.gs
  exact wp_global ok S hx ht (hQ _ _ _ _ _ _ h (.refl _) List.prefix_rfl S (.of (.bytes _ _)))

theorem nums_of {vs : List Value} {ns : List Int} (hi : IntsAre vs ns) {xs : Array (Int × Tok)} (hx : vs.toArray = intItems xs) : preSum (numAt xs) xs.size = ns.sum := by
  have e1 : ns = xs.toList.map (·.1) := by
    rw [← nums_intItems, ← hx]
    exact (show numsOf vs.toArray.toList = ns from hi.numsOf).symm
  rw [preSum_eq, List.take_of_length_le (by simp), e1]
theorem Ev.sum {e : Expr} (h : Ev B a Δ μ e fun d μ1 => ∃ ns : List Int, d = .list (ns.map .int) ∧ K (.int ns.sum) μ1) (hx : a.env.kindOf "sum" = some .globalImplicit := by rfl) (hs : noStar [e] = true := by rfl) : Ev B a Δ μ (.Call (.Name "sum" p) [e] [] pos) K :=
  Ev.callB (id := "sum") (EvL.cons (h.mono fun d μ1 ⟨ns, hc, k⟩ => EvL.nil (by
    subst hc
    exact OpL.one (t := fun v => PySem.call (.builtin "sum") [v]) (fun B a Δ ok C ρ s v S hv Q E hQ => by
      obtain ⟨l, vs, rfl, hl, r⟩ := Rd.isList hv S.cold
      have hi := rd_ints r
      obtain ⟨xs, hxs⟩ := hi.allInts.items
      refine sum_intListG ok.hh (hxs ▸ hl) fun h' tk t' hk => ?_
      rw [nums_of hi hxs]
      exact hQ _ _ _ _ _ _ k (.refl _) List.prefix_rfl (S.keep0 (h' := h') (tk := tk) hk) (.int _ _)) _ fun _ => rfl)))
    PyProof.Rows.Boot.«sum» (by simp [biNames]) hx (by simp) hs (by decide) rfl

/-- raise SheetFault(e) -/
theorem Ex1.raise {e : Expr} {np cpos : Pos} (h : Ev B a Δ μ e fun _ _ => True) {l : List Env} (hl : a.fr = some l) (hx : a.env.kindOf "SheetFault" = some .globalImplicit := by rfl) (hs : noStar [e] = true := by rfl) :
    Ex1 B a Δ μ (.Raise (some (.Call (.Name "SheetFault" np) [e] [] cpos)) none pos) Kn Kr := fun ok C ρ s S Q E hn hr hE => by
  refine ok.st.sf _ fun Cc N Mm fI cM ddM cdM slM mN mM nm qq bs sn sub ab col dd k0 k1 k2 k3 k5 hsf T I => ?_
  have hsfC : sfC B = .ref Cc := by unfold sfC; rw [hsf]; rfl
  have hroom : a.A.depth + 2 < recursionLimit := by have := ok.room.1; show a.A.depth + 2 < 1000; (exact ob33 this)
  have hse : starEach [e] a.env = [(false, eval e a.env)] := starEach_cons hs
  refine raise_two (C := Cc) (N := N) (M := Mm) (fI := fI) (cM := cM) (ddM := ddM) (cdM := cdM) (slM := slM) (mN := mN) (mM := mM) (nm := nm) (q := qq) (bs := bs) (sn := sn) (sub := sub) (ab := ab) (col := col) (dd := dd) (k0 := k0) (k1 := k1) (k2 := k2) (k3 := k3) (k5 := k5) ok.hh hroom hse (wp_global ok S hx hsf ⟨rfl, ?_⟩)
  refine h ok C ρ s S _ E (fun v d C1 ρ1 μ1 s1 _ c1 p1 S1 r1 => ?_) hE
  have k := fun (b : Addr) (o : Obj) (q : B.s₀.heap.get? b = some o) => S1.base.keep b o q
  refine ⟨T.keeps k, I.keeps k, ok.st.lim.keeps k, fun h' ea tk' hm => ?_⟩
  have fr := ok.fr l hl
  have hns := S1.ns
  obtain ⟨m, ⟨oL, es, ep, hoL, hdL, hrest⟩, _⟩ := hns
  refine hE l hl ea { s1 with heap := h', toks := tk' } (S1.base.to fun c o q => hm.keeps _ _ (S1.base.keep c o q)) ?_
  rw [hsfC]
  have lockd : ∀ b ∈ frs (a.env :: l), B.s₀.heap.get? b = none := fun b hb => by
    rw [frs, List.filterMap_cons, fr.2] at hb
    rcases List.mem_cons.mp hb with rfl | hb
    · exact S1.bL
    · obtain ⟨env, he, hf⟩ := List.mem_filterMap.mp hb
      obtain ⟨_, L, p, hf', hb', _⟩ := S1.outer l hl env he
      rw [hf] at hf'; cases hf'; exact hb'
  refine ⟨hide s1.heap (frs (a.env :: l)), ⟨fun b o q => ?_, fun b p q => ?_, ?_⟩, .made s1.heap (fun b o q => ?_) ?_ hm⟩
  · rw [hide_out fun hb => by rw [lockd b hb] at q; cases q]; exact S1.base.keep b o q
  · by_cases hb : b ∈ frs (a.env :: l)
    · refine .inl ⟨hb, ?_⟩
      have q1 : C1 b = some p := c1 _ _ q
      rw [frs, List.filterMap_cons, fr.2] at hb
      rcases List.mem_cons.mp hb with rfl | hb
      · rw [S1.nL] at q1; cases q1
      · obtain ⟨env, he, hf⟩ := List.mem_filterMap.mp hb
        obtain ⟨_, L, p', hf', _, hc, hd⟩ := S1.outer l hl env he
        rw [hf] at hf'; cases hf'
        rw [hc] at q1; cases q1; exact hd
    · obtain ⟨o, ho, r⟩ := S1.cold b p (c1 _ _ q)
      exact .inr ⟨o, by rw [hide_out hb]; exact ho, r⟩
  · exact fun b p q => let ⟨o, ho, r⟩ := S1.cold b p (c1 _ _ q); ⟨o, hm.keeps _ _ ho, r⟩
  · by_cases hb : b ∈ frs (a.env :: l)
    · rw [hide_in hb] at q; cases q
    · rw [hide_out hb] at q; exact q
  · have hout : ∀ {l' : List Env}, (∀ e ∈ l', e ∈ l) → s1.heap.FunFrames (hide s1.heap (frs (a.env :: l))) l' := by
      intro l' hsub
      induction l' with
      | nil => trivial
      | cons env r ih =>
        obtain ⟨kd, L, p, f, b, c, es, n, q⟩ := S1.outer l hl env (hsub env (.head _))
        obtain ⟨o, ho, _, hd, _⟩ := S1.cold _ _ c
        refine ⟨kd, ⟨L, o, f, hide_in ?_, ho, fun vs e => by rw [hd, q] at e; cases e⟩, ih fun e he => hsub e (.tail _ he)⟩
        rw [frs, List.filterMap_cons, fr.2]
        exact .tail _ (List.mem_filterMap.mpr ⟨env, hsub env (.head _), f⟩)
    refine ⟨by rw [ok.kind]; decide, ⟨a.env.locals, oL, fr.2, hide_in ?_, hoL, fun vs e => by rw [hdL] at e; cases e⟩, hout fun e he => he⟩
    rw [frs, List.filterMap_cons, fr.2]; exact .head _
end
/-! B17 -/
theorem stack_bool {M : Model} {A : Around} {E : Value → Shared → Prop} {s : Shared} {f : List (Code × Pos) → Bool} {Q : Bool → Shared → Prop} (h : ∀ b, Q b s) : wpAny M A stack (fun st s => wpAny M A (pure (f st)) Q E s) E s := wpAny_stack_any fun st => wpAny_pure (h (f st))

/-! range -/
section
variable {B : Bs} {a : Act} {Δ : DE} {μ : List MO} {tg : Expr} {pos p : Pos}
theorem EvIter.range {e : Expr} {K : List D → List MO → Prop} (h : Ev B a Δ μ e fun d μ1 => ∃ i : Int, d = .int i ∧ 0 ≤ i ∧ i < 2 ^ 40 ∧ K (rng 0 1 i.toNat) μ1) (hx : a.env.kindOf "range" = some .globalImplicit := by rfl) (hs : noStar [e] = true := by rfl) :
    EvIter B a Δ μ tg (.Call (.Name "range" p) [e] [] pos) K := fun ok C ρ s S Q E hQ hE => by
  refine wpAny_Call_NameR (wp_builtin ok S hx (by simp [biNames]) PyProof.Rows.Boot.«range» ?_ (by decide) (by decide))
  rw [starEach_cons hs]
  refine PyProof.Rows.callWith_type rfl (Calls.evalArgs_plain (Calls.spliced_cons (h ok C ρ s S _ E (fun v d C1 ρ1 μ1 s1 k1 c1 p1 S1 r1 => Calls.spliced_nil ?_) hE)))
  obtain ⟨i, rfl, h0, h1, hk⟩ := k1
  obtain ⟨t, rfl⟩ := Rd.intI r1
  refine call_range_1 ?_
  have S2 := S1.keep0 (h' := s1.heap.push { cls := .type "range", data := .fields #[.int 0 s1.toks, .int i t, .int 1 (s1.toks + 1)] }) (tk := s1.toks + 1 + 1) (fun _ _ e => Heap.get?_push_of_some _ e)
  refine wpAny_pyIter_range (IsRange.new ..) (small_one (by decide) (by decide) (by (exact ob34 h0)) (by (exact ob35 h1))) ?_
  have hsz : Builtin.Range.rangeSize 0 i 1 = (i.toNat : Int) := by rw [rangeSize_one]; split <;> omega
  obtain ⟨x1, x2, x3⟩ := S2.iter1 (tg := tg) (simple_range (x := 0) (c := 1) (n := i.toNat)) (o := { cls := .type "range_iterator", data := .fields #[rawInt 0, rawInt (Builtin.Range.rangeSize 0 i 1), rawInt 1] }) (by rw [hsz]; simp) rfl (s1.toks + 1 + 1)
  exact hQ _ _ _ _ _ _ _ hk c1 p1 x1 x2 x3
end

/-! iterators that hand out tuples -/
theorem walksT_yields {elts : List Expr} {kk : Nat} {tpos : Pos} {I : Addr} {fp wr ks : List Addr} {C : Cold} {n : Nat} {P : Nat → Array Value → Prop} {St : Nat → Heap → Prop} {Mid : Nat → Addr → Heap → Prop} {ds : List D}
    (W : ∀ w A, A.handled = none → WalksT pw w A I fp wr n P St Mid) (hwr : ∀ b ∈ wr, b ∈ ks) (hks : ∀ b ∈ ks, C b = none) (hfp : ∀ b ∈ fp, b ∈ ks ∨ ∃ p, C b = some p ∧ ∀ es n, p.2.data ≠ .dict es n)
    (hnd : ∀ i h, St i h → ∀ b ∈ ks, ∃ o, h.get? b = some o ∧ NoDict o) (hlen : ds.length = n) (hP : ∀ i vals, i < n → P i vals → ∃ d, ds[i]? = some (.tuple d) ∧ RdAll C vals.toList d)
    (dn : ∀ (w : World) (A : Around) (s : Shared) (Q : Option Value → Shared → Prop) (E : Value → Shared → Prop), A.handled = none → St n s.heap → (∀ h', (∀ b o, b ∉ wr → s.heap.get? b = some o → h'.get? b = some o) → Q none { s with heap := h' }) → wpAny (model pw w) A (pyNext (.ref I)) Q E s) :
    ∀ (k i : Nat) (h0 : Heap), k + i = n → St i h0 → C.In h0 → Yields (.Tuple elts kk tpos) (.ref I) C (ks.map fun b => (b, (h0.get? b).getD default)) (ds.drop i) := by
  have keys : ∀ h0 : Heap, ((ks.map fun b => (b, (h0.get? b).getD default)).map (·.1)) = ks := fun h0 => by rw [List.map_map]; exact List.map_id _
  have back : ∀ (w : World) (A : Around) i h0 h, A.handled = none → St i h0 → C.In h0 → C.In h → OsAt h (ks.map fun b => (b, (h0.get? b).getD default)) → St i h := fun w A i h0 h hh st ci0 ci hat => by
    refine (W w A hh).frame i h0 h st fun b hb o ho => ?_
    rcases hfp b hb with hk | ⟨p, hp, hnd⟩
    · have := hat (b, (h0.get? b).getD default) (List.mem_map.mpr ⟨b, hk, rfl⟩)
      rw [ho] at this; exact this
    · obtain ⟨o1, e1, _, _, q1⟩ := ci0 b p hp
      obtain ⟨o2, e2, _, _, q2⟩ := ci b p hp
      rw [e1] at ho; cases ho
      rw [e2, q1 hnd, q2 hnd]
  intro k
  induction k with
  | zero =>
    intro i h0 hk st ci0
    have hi : i = n := by (exact ob21 hk)
    subst hi
    rw [← hlen, List.drop_length]
    intro w A s Q E hh ci hat hQ
    rw [hlen] at *
    refine dn w A s Q E hh (back w A i h0 s.heap hh st ci0 ci hat) fun h' hk' => hQ h' fun b o hb e => hk' b o (fun h => hb (by rw [keys]; exact hwr b h)) e
  | succ k ih =>
    intro i h0 hk st ci0
    have hi : i < n := by (exact ob22 hk)
    rw [List.drop_eq_getElem_cons (by rw [hlen]; exact hi)]
    intro w A s Q E hh ci hat hQ
    refine (W w A hh).item i s _ E hi (back w A i h0 s.heap hh st ci0 ci hat) fun T vals h' tk hPi hT hTup hmid hk' => ?_
    refine (W w A hh).go elts kk tpos i T { s with heap := h', toks := tk } _ _ hmid fun h'' st'' hk'' => ?_
    obtain ⟨d, hd, hr⟩ := hP i vals hi hPi
    rw [List.getElem?_eq_getElem (by rw [hlen]; exact hi)] at hd
    have hd' := Option.some.inj hd
    obtain ⟨oT, hoT, hcT, nT, hdT⟩ := hTup
    have hTw : T ∉ wr := (W w A hh).apart i T h' hmid
    have keep : ∀ b o, b ∉ wr → s.heap.get? b = some o → h''.get? b = some o := fun b o hb e => hk'' b o hb (hk' b o hb e)
    have ci'' : C.In h'' := by
      intro b p e
      obtain ⟨o, ho, q⟩ := ci b p e
      exact ⟨o, keep b o (fun hb => by rw [hks b (hwr b hb)] at e; cases e) ho, q⟩
    refine hQ (.ref T) h'' tk (ks.map fun b => (b, (h''.get? b).getD default)) (by rw [keys, keys]) (fun p hp => ?_) (fun p hp => ?_) (fun b o hb e => keep b o (fun h => hb (by rw [keys]; exact hwr b h)) e)
      (.inr ⟨T, oT, vals.toList, nT, d, rfl, hT, hk'' T oT hTw hoT, hcT, by simpa using hdT, hr, hd'⟩) (ih (i + 1) h'' (by (exact ob23 hk)) st'' ci'')
    · obtain ⟨b, hb, rfl⟩ := List.mem_map.mp hp
      obtain ⟨o, ho, _⟩ := hnd _ _ st'' b hb
      rw [ho]; rfl
    · obtain ⟨b, hb, rfl⟩ := List.mem_map.mp hp
      obtain ⟨o, ho, hn⟩ := hnd _ _ st'' b hb
      rw [ho]; exact hn

/-- an iterator of the kind just made -/
theorem St.iterT {B : Bs} {a : Act} {Δ : DE} {C : Cold} {ρ : List Addr} {μ : List MO} {s : Shared} (S : St B a Δ C ρ μ s) {elts : List Expr} {kk : Nat} {tpos : Pos} {I : Addr} {fp wr ks : List Addr} {n : Nat} {P : Nat → Array Value → Prop} {Stt : Nat → Heap → Prop} {Mid : Nat → Addr → Heap → Prop} {ds : List D} {h' : Heap}
    (W : ∀ w A, A.handled = none → WalksT pw w A I fp wr n P Stt Mid) (hwr : ∀ b ∈ wr, b ∈ ks) (hks : ∀ b ∈ ks, s.heap.objs.size ≤ b) (hn : ks.Nodup) (hfp : ∀ b ∈ fp, b ∈ ks ∨ ∃ p, C b = some p ∧ ∀ es n, p.2.data ≠ .dict es n)
    (hnd : ∀ i h, Stt i h → ∀ b ∈ ks, ∃ o, h.get? b = some o ∧ NoDict o) (hlen : ds.length = n) (hP : ∀ i vals, i < n → P i vals → ∃ d, ds[i]? = some (.tuple d) ∧ RdAll C vals.toList d)
    (dn : ∀ (w : World) (A : Around) (s : Shared) (Q : Option Value → Shared → Prop) (E : Value → Shared → Prop), A.handled = none → Stt n s.heap → (∀ h', (∀ b o, b ∉ wr → s.heap.get? b = some o → h'.get? b = some o) → Q none { s with heap := h' }) → wpAny (model pw w) A (pyNext (.ref I)) Q E s)
    (hI : ∀ (w : World) (A : Around) (s : Shared) (Q : Value → Shared → Prop) (E : Value → Shared → Prop) (h0 : Heap), Stt 0 h0 → (∀ b ∈ ks, s.heap.get? b = h0.get? b) → Q (.ref I) s → wpAny (model pw w) A (pyIter (.ref I)) Q E s)
    (st : Stt 0 h') (k : ∀ b o, s.heap.get? b = some o → h'.get? b = some o) (tk : Nat) :
    ∃ os, St B (a.wit (os ++ a.its)) Δ C ρ μ { s with heap := h', toks := tk } ∧ Yields (.Tuple elts kk tpos) (.ref I) C os ds ∧ SelfIt (.ref I) C os := by
  refine ⟨ks.map fun b => (b, (h'.get? b).getD default), S.start k (fun p hp => ?_) ?_ (fun p hp => ?_) (fun p hp => ?_), ?_, fun w A s' Q E ci hat hQ => ?_⟩
  · obtain ⟨b, hb, rfl⟩ := List.mem_map.mp hp; exact hks b hb
  · rw [List.map_map]
    show (ks.map id).Nodup
    rw [List.map_id]; exact hn
  · obtain ⟨b, hb, rfl⟩ := List.mem_map.mp hp
    obtain ⟨o, ho, _⟩ := hnd _ _ st b hb
    rw [ho]; rfl
  · obtain ⟨b, hb, rfl⟩ := List.mem_map.mp hp
    obtain ⟨o, ho, hn⟩ := hnd _ _ st b hb
    rw [ho]; exact hn
  · have := walksT_yields (elts := elts) (kk := kk) (tpos := tpos) W hwr (fun b hb => (S.fresh (hks b hb)).1) hfp hnd hlen hP dn n 0 h' (by (exact Nat.add_zero _)) st (S.cold.keeps k)
    simpa using this
  · refine hI w A s' Q E h' st (fun b hb => ?_) hQ
    obtain ⟨o, ho, _⟩ := hnd _ _ st b hb
    have := hat (b, (h'.get? b).getD default) (List.mem_map.mpr ⟨b, hb, rfl⟩)
    rw [ho] at this ⊢; exact this

/-! enumerate, zip -/
noncomputable def enumD (ds : List D) : List D := ds.zipIdx.map fun p => .tuple [.int p.2, p.1]
theorem enumD_get {ds : List D} {i : Nat} {d : D} (h : ds[i]? = some d) : (enumD ds)[i]? = some (.tuple [.int i, d]) := by
  unfold enumD
  rw [List.getElem?_map, List.getElem?_zipIdx, h]
  simp
theorem rd_pair {C : Cold} {i : Int} {t : Tok} {v : Value} {d : D} (r : Rd C v d) : RdAll C (#[.int i t, v] : Array Value).toList [.int i, d] := .cons (.int i t) (.cons r .nil)

section
variable {prog : Program} {w : World} {A : Around} {E : Value → Shared → Prop} {s : Shared} {b : Array UInt8} {t : Tok}
theorem nextOf_bytes_item {it : Addr} {i : Nat} {c : UInt8} {Q : Value → Shared → Prop} (hit : KBw.IsBytesIter s.heap it b t i) (hx : b[i]? = some c)
    (hQ : ∀ h', KBw.IsBytesIter h' it b t (i + 1) → Heap.SameBut it s.heap h' → Q (.int (c.toNat : Int) s.toks) { s with heap := h', toks := s.toks + 1 }) : wpAny (model prog w) A (Builtin.SmallTypes.nextOf (.ref it)) Q E s := by
  obtain ⟨o, ho, hc, hd⟩ := id hit
  unfold Builtin.SmallTypes.nextOf
  refine wpAny_bind (wpAny_callSpecial?_slot (name := PySem.Str.ofString "__next__") (KBw.iter_typeIs hit) KBw.slot_next
    (wpAny_call_entry KBw.slot_next (KBw.iter_typeIs hit) KBw.entry_next ?_ (KBw.args_next _)))
  show wpAny _ _ (field (.ref it) 0 >>= _) _ _ s
  refine wpAny_bind (wpAny_field ho hd (x := .bytes b t) rfl ?_)
  show wpAny _ _ (if (Value.bytes b t == Value.none) = true then _ else _) _ _ s
  rw [if_neg (show ¬ ((Value.bytes b t == Value.none) = true) from Bool.false_ne_true)]
  show wpAny _ _ (field (.ref it) 1 >>= _) _ _ s
  refine wpAny_bind (wpAny_field ho hd (x := .int i 0) rfl ?_)
  refine wpAny_bind (wpAny_of_eq (a := b) rfl ?_)
  simp only [Int.toNat_natCast, hx]
  refine wpAny_bind (wpAny_setField ho hd (by simp) (wpAny_bind (wpAny_mkInt (wpAny_pure ⟨_, rfl, wpAny_pure (hQ _ ?_ (Heap.SameBut.update ..))⟩))))
  exact ⟨_, Heap.get?_update_self _ ho (Obj.isFreed_of_fields (Obj.data_mapFields hd _)), (Obj.cls_mapFields ..).trans hc, by
    rw [Obj.data_mapFields hd]; simp [rawInt]⟩
theorem nextOf_bytes_end {it : Addr} {i : Nat} {Q : Value → Shared → Prop} (hh : A.handled = none) (hit : KBw.IsBytesIter s.heap it b t i) (hx : b[i]? = none)
    (hE : ∀ h' e, Heap.ExtBut it s.heap h' → (∃ o, h'.get? e = some o ∧ o.cls = .type "StopIteration") → E (.ref e) { s with heap := h' }) : wpAny (model prog w) A (Builtin.SmallTypes.nextOf (.ref it)) Q E s := by
  obtain ⟨o, ho, hc, hd⟩ := id hit
  unfold Builtin.SmallTypes.nextOf
  refine wpAny_bind (wpAny_callSpecial?_slot (name := PySem.Str.ofString "__next__") (KBw.iter_typeIs hit) KBw.slot_next
    (wpAny_call_entry KBw.slot_next (KBw.iter_typeIs hit) KBw.entry_next ?_ (KBw.args_next _)))
  show wpAny _ _ (field (.ref it) 0 >>= _) _ _ s
  refine wpAny_bind (wpAny_field ho hd (x := .bytes b t) rfl ?_)
  show wpAny _ _ (if (Value.bytes b t == Value.none) = true then _ else _) _ _ s
  rw [if_neg (show ¬ ((Value.bytes b t == Value.none) = true) from Bool.false_ne_true)]
  show wpAny _ _ (field (.ref it) 1 >>= _) _ _ s
  refine wpAny_bind (wpAny_field ho hd (x := .int i 0) rfl ?_)
  refine wpAny_bind (wpAny_of_eq (a := b) rfl ?_)
  simp only [Int.toNat_natCast, hx]
  refine wpAny_bind (wpAny_rule (wpAny_bind (wpAny_setField ho hd (by simp) ?_)))
  show wpAny _ _ (newExc (.type "StopIteration") [] >>= _) _ _ _
  refine wpAny_bind ?_
  simp only [newExc, newTuple]
  refine wpAny_bind (wpAny_newObj_type ?_ (by size_fits))
  refine wpAny_bind (m := firstArgMember _ _) (wpAny_of_eq (a := Value.none) (by first | rfl | (simp only [firstArgMember]; rfl)) ?_)
  refine wpAny_newObj_type ?_ (by size_fits)
  simp only [raiseNew]
  refine wpAny_bind (wpAny_handled ?_)
  rw [show A.in1.handled = none from hh]
  refine wpAny_bind (wpAny_pure (wpAny_throw ?_))
  exact hE _ _ (((Heap.SameBut.update ..).extBut.push _).push _) ⟨_, Heap.get?_push_size _ rfl, rfl⟩
theorem draws_bytes (hh : A.handled = none) (it : Addr) (b : Array UInt8) (t : Tok) :
    Draws prog w A it [it] b.size (fun i v => ∃ c u, b[i]? = some c ∧ v = .int (c.toNat : Int) u) (fun i h => KBw.IsBytesIter h it b t i) where
  live := fun _ _ st => let ⟨o, ho, _⟩ := st; ⟨o, ho⟩
  frame := fun _ _ _ st hk => let ⟨o, ho, r⟩ := st; ⟨o, hk it (by simp) o ho, r⟩
  item := fun i s Q E hi st hQ => by
    refine nextOf_bytes_item st (c := b[i]) (by simp [hi]) fun h' hit' hs' => ?_
    exact hQ _ h' (s.toks + 1) ⟨_, _, by simp [hi], rfl⟩ hit' hs'
  done := fun s Q E st hE => nextOf_bytes_end hh st (by simp) hE
set_option maxHeartbeats 2000000 in
theorem meets_enum_bytes (b : Array UInt8) (t : Tok) :
    Meets (Builtin.«enumerate.__new__» ⟨[.type "enumerate", .bytes b t], []⟩) (fun _ R s =>
      R (.ok (.ret (.ref (s.heap.push { cls := .type "bytes_iterator", data := .fields #[.bytes b t, .int 0 0] }).objs.size)))
        { s with heap := (s.heap.push { cls := .type "bytes_iterator", data := .fields #[.bytes b t, .int 0 0] }).push { cls := .type "enumerate", data := .fields #[.none, .bool false, .ref s.heap.objs.size, rawInt 0, .none, .none] } }) :=
  .of_wp fun prog w A R s h => by
    obtain ⟨hp, g, d, tk, os⟩ := s
    have hsub := sub_enumerate
    wp_walk
    refine stack_bool fun b => ?_
    cases b
    · wp_walk using KBw.pyIter_bytes
      exact ⟨_, rfl, h⟩
    · wp_walk using KBw.pyIter_bytes
      exact ⟨_, rfl, h⟩
end
/-! B18 -/
section
variable {B : Bs} {a : Act} {Δ : DE} {μ : List MO} {elts : List Expr} {kk : Nat} {tpos pos p : Pos}
theorem EvIter.enum {e : Expr} {K : List D → List MO → Prop} (h : Ev B a Δ μ e fun d μ1 => (∃ ds, d = .list ds ∧ K (enumD ds) μ1) ∨ ∃ ns, d = .bytes ns ∧ K (enumD (ns.map .int)) μ1) (hx : a.env.kindOf "enumerate" = some .globalImplicit := by rfl) (hs : noStar [e] = true := by rfl) :
    EvIter B a Δ μ (.Tuple elts kk tpos) (.Call (.Name "enumerate" p) [e] [] pos) K := fun ok C ρ s S Q E hQ hE => by
  refine wpAny_Call_NameR (wp_builtin ok S hx (by simp [biNames]) PyProof.Rows.Boot.«enumerate» ?_ (by decide) (by decide))
  rw [starEach_cons hs]
  refine PyProof.Rows.callWith_type rfl (Calls.evalArgs_plain (Calls.spliced_cons (h ok C ρ s S _ E (fun v d C1 ρ1 μ1 s1 k1 c1 p1 S1 r1 => Calls.spliced_nil ?_) hE)))
  have ne : s1.heap.objs.size + 1 ≠ s1.heap.objs.size := Nat.succ_ne_self _
  rcases k1 with ⟨ds, rfl, hk⟩ | ⟨ns, rfl, hk⟩
  · obtain ⟨l, ol, vs, n, rfl, ec, hc, hdn, hd, rr⟩ := Rd.listI r1
    obtain ⟨o1, ho1, q1, q2, _⟩ := S1.cold _ _ ec
    have hL : s1.heap.IsList l vs.toArray := ⟨o1, ho1, q1.trans hc, n, q2.trans hd⟩
    have lt : l < s1.heap.objs.size := Heap.lt_size ho1
    refine call_enumerate_list hL fun h' he hit hz hk' => wpAny_pyIter_enum he ?_
    obtain ⟨os, x1, x2, x3⟩ := S1.iterT (elts := elts) (kk := kk) (tpos := tpos) (I := s1.heap.objs.size + 1) (fp := [s1.heap.objs.size + 1, s1.heap.objs.size, l]) (wr := [s1.heap.objs.size + 1, s1.heap.objs.size]) (ks := [s1.heap.objs.size + 1, s1.heap.objs.size]) (n := vs.toArray.size) (ds := enumD ds) (h' := h')
      (fun w A hh => WalksT.enumerateD (Draws.list (A := A.in1) hh s1.heap.objs.size l (Nat.ne_of_lt lt) vs.toArray) (s1.heap.objs.size + 1) ne (by simp [ne, Nat.ne_of_gt (Nat.lt_succ_of_lt lt)]) (by simp))
      (fun b hb => hb) (fun b hb => by
        rcases List.mem_cons.mp hb with rfl | hb
        · exact Nat.le_succ _
        · rw [List.mem_singleton.mp hb]; exact Nat.le_refl _) (by simp [ne])
      (fun b hb => by
        rcases List.mem_cons.mp hb with rfl | hb
        · exact .inl (by simp)
        · rcases List.mem_cons.mp hb with rfl | hb
          · exact .inl (by simp)
          · rw [List.mem_singleton.mp hb]; exact .inr ⟨_, ec, fun _ _ q => by rw [hd] at q; cases q⟩)
      (fun i h st b hb => by
        obtain ⟨⟨old, he⟩, ⟨o, ho, hc, hd⟩, _⟩ := st
        rcases List.mem_cons.mp hb with rfl | hb
        · exact ⟨_, he, .fields rfl⟩
        · rw [List.mem_singleton.mp hb]; exact ⟨o, ho, .fields hd⟩)
      (by simp [enumD, rr.length])
      (fun i vals hi hP => by
        obtain ⟨t, x, hx, rfl⟩ := hP
        obtain ⟨d, hd, rd⟩ := rr.getv (k := i) (v := x) (by simpa using hx)
        exact ⟨_, enumD_get hd, rd_pair rd⟩)
      (fun w A s2 Q E hh st hQ => by
        obtain ⟨⟨old, he⟩, st⟩ := st
        exact wpAny_pyNext_enum_endD (Draws.list (A := A.in1) hh s1.heap.objs.size l (Nat.ne_of_lt lt) vs.toArray) he st fun h' hx => hQ h' fun b o hb e => hx b o (fun q => hb (by simp [q])) e)
      (fun w A s2 Q E h0 st hks hQ => by
        obtain ⟨⟨old, he⟩, st⟩ := st
        exact wpAny_pyIter_enum (by unfold IsEnum; rw [hks _ (by simp)]; exact he) hQ)
      ⟨⟨_, he⟩, hit, hL.at fun o e => hk' _ _ e⟩ hk' s1.toks
    exact hQ _ _ _ _ _ _ _ hk c1 p1 x1 x2 x3
  · obtain ⟨b, t, rfl, rfl⟩ := Rd.bytesI r1
    refine callType_new F.called_enumerate (by decide) (F.typeCall_enumerate_1 _) (F.newCall_enumerate_1 _) (fun obj => F.args_object_init_2 obj _) F.entry_enumerate_new (meets_enum_bytes b t) ?_
    have hz : (s1.heap.push { cls := .type "bytes_iterator", data := .fields #[.bytes b t, .int 0 0] }).objs.size = s1.heap.objs.size + 1 := Heap.size_push ..
    show _ ∧ _
    rw [hz]
    have he : IsEnum ((s1.heap.push { cls := .type "bytes_iterator", data := .fields #[.bytes b t, .int 0 0] }).push
        { cls := .type "enumerate", data := .fields #[.none, .bool false, .ref s1.heap.objs.size, rawInt 0, .none, .none] }) (s1.heap.objs.size + 1) s1.heap.objs.size 0 .none := by
      have := Heap.get?_push_size (s1.heap.push { cls := .type "bytes_iterator", data := .fields #[.bytes b t, .int 0 0] })
        (o := { cls := .type "enumerate", data := .fields #[.none, .bool false, .ref s1.heap.objs.size, rawInt 0, .none, .none] }) rfl
      rw [hz] at this; exact this
    refine ⟨⟨_, he, rfl⟩, wpAny_pyIter_enum he ?_⟩
    have hk' : ∀ c o, s1.heap.get? c = some o → ((s1.heap.push { cls := .type "bytes_iterator", data := .fields #[.bytes b t, .int 0 0] }).push
        { cls := .type "enumerate", data := .fields #[.none, .bool false, .ref s1.heap.objs.size, rawInt 0, .none, .none] }).get? c = some o := fun c o e => Heap.get?_push_of_some _ (Heap.get?_push_of_some _ e)
    obtain ⟨os, x1, x2, x3⟩ := S1.iterT (elts := elts) (kk := kk) (tpos := tpos) (I := s1.heap.objs.size + 1) (fp := [s1.heap.objs.size + 1, s1.heap.objs.size]) (wr := [s1.heap.objs.size + 1, s1.heap.objs.size]) (ks := [s1.heap.objs.size + 1, s1.heap.objs.size]) (n := b.size) (ds := enumD ((KBw.bInts b).map .int))
      (fun w A hh => WalksT.enumerateD (draws_bytes (A := A.in1) hh s1.heap.objs.size b t) (s1.heap.objs.size + 1) ne (by simp [ne]) (by simp))
      (fun b hb => hb) (fun b hb => by
        rcases List.mem_cons.mp hb with rfl | hb
        · exact Nat.le_succ _
        · rw [List.mem_singleton.mp hb]; exact Nat.le_refl _) (by simp [ne])
      (fun b hb => .inl hb)
      (fun i h st b hb => by
        obtain ⟨⟨old, he⟩, o, ho, hc, hd⟩ := st
        rcases List.mem_cons.mp hb with rfl | hb
        · exact ⟨_, he, .fields rfl⟩
        · rw [List.mem_singleton.mp hb]; exact ⟨o, ho, .fields hd⟩)
      (by simp [enumD, KBw.ints_length])
      (fun i vals hi hP => by
        obtain ⟨u, x, ⟨c, u2, hx, rfl⟩, rfl⟩ := hP
        refine ⟨_, enumD_get (d := .int (c.toNat : Int)) ?_, rd_pair (.int _ _)⟩
        rw [List.getElem?_map, KBw.ints_get hx]; rfl)
      (fun w A s2 Q E hh st hQ => by
        obtain ⟨⟨old, he⟩, st⟩ := st
        exact wpAny_pyNext_enum_endD (draws_bytes (A := A.in1) hh s1.heap.objs.size b t) he st fun h' hx => hQ h' fun b o hb e => hx b o (fun q => hb (by simp [q])) e)
      (fun w A s2 Q E h0 st hks hQ => by
        obtain ⟨⟨old, he⟩, st⟩ := st
        exact wpAny_pyIter_enum (by unfold IsEnum; rw [hks _ (by simp)]; exact he) hQ)
      ⟨⟨_, he⟩, _, Heap.get?_push_of_some _ (Heap.get?_push_size _ rfl), rfl, rfl⟩ hk' s1.toks
    exact hQ _ _ _ _ _ _ _ hk c1 p1 x1 x2 x3

noncomputable def zipD (xs ys : List D) : List D := (xs.zip ys).map fun p => .tuple [p.1, p.2]
theorem EvIter.zip {e1 e2 : Expr} {K : List D → List MO → Prop} (h : Ev B a Δ μ e1 fun d1 μ1 => ∃ xs, d1 = .list xs ∧ Ev B a Δ μ1 e2 fun d2 μ2 => ∃ ys, d2 = .list ys ∧ K (zipD xs ys) μ2)
    (hx : a.env.kindOf "zip" = some .globalImplicit := by rfl) (hs : noStar [e1, e2] = true := by rfl) :
    EvIter B a Δ μ (.Tuple elts kk tpos) (.Call (.Name "zip" p) [e1, e2] [] pos) K := fun ok C ρ s S Q E hQ hE => by
  refine wpAny_Call_NameR (wp_builtin ok S hx (by simp [biNames]) PyProof.Rows.Boot.«zip» ?_ (by decide) (by decide))
  rw [starEach_cons hs, starEach_cons (noStar_tail hs)]
  refine PyProof.Rows.callWith_type rfl (Calls.evalArgs_plain (Calls.spliced_cons (h ok C ρ s S _ E (fun v1 d1 C1 ρ1 μ1 s1 k1 c1 p1 S1 r1 => ?_) hE)))
  obtain ⟨xs, rfl, k1⟩ := k1
  refine Calls.spliced_cons (k1 ok C1 ρ1 s1 S1 _ E (fun v2 d2 C2 ρ2 μ2 s2 k2 c2 p2 S2 r2 => Calls.spliced_nil ?_) (hE.mono c1))
  obtain ⟨ys, rfl, hk⟩ := k2
  have r1' : Rd C2 v1 (.list xs) := (r1.mono c2 p2 : VRd C2 ρ2 v1 (.list xs))
  obtain ⟨l1, ol1, vs1, n1, rfl, ec1, hc1, hdn1, hd1, rr1⟩ := Rd.listI r1'
  obtain ⟨l2, ol2, vs2, n2, rfl, ec2, hc2, hdn2, hd2, rr2⟩ := Rd.listI r2
  obtain ⟨o1, ho1, q1, q1', _⟩ := S2.cold _ _ ec1
  obtain ⟨o2, ho2, q2, q2', _⟩ := S2.cold _ _ ec2
  have hL1 : s2.heap.IsList l1 vs1.toArray := ⟨o1, ho1, q1.trans hc1, n1, q1'.trans hd1⟩
  have hL2 : s2.heap.IsList l2 vs2.toArray := ⟨o2, ho2, q2.trans hc2, n2, q2'.trans hd2⟩
  have lt1 : l1 < s2.heap.objs.size := Heap.lt_size ho1
  have lt2 : l2 < s2.heap.objs.size := Heap.lt_size ho2
  show wpAny _ _ (PySem.call (.type "zip") [.ref l1, .ref l2]) _ _ _
  refine call_zip_2 hL1 hL2 fun h' hz hTI hTO hi1 hi2 hsz hk' => wpAny_pyIter_zip hz ?_
  generalize hN : s2.heap.objs.size = N at *
  have ge : ∀ i, s2.heap.objs.size ≤ N + i := fun i => hN ▸ Nat.le_add_right _ _
  have nd : ∀ {d : Data} {vs : Array Value} {n : Nat}, d = .seq vs n → ∀ es m, d ≠ .dict es m := fun h es m q => nomatch h.symm.trans q
  have nn : ∀ {i : Nat}, 0 < i → (N + i : Nat) ≠ N := fun h => by (exact ob36 h)
  have D : ZipApart (N + 4) (N + 2) (N + 3) N (N + 1) l1 l2 := by
    have a1 : ∀ i, l1 ≠ N + i := fun i => Nat.ne_of_lt (Nat.lt_of_lt_of_le lt1 (Nat.le_add_right _ _))
    have a2 : ∀ i, l2 ≠ N + i := fun i => Nat.ne_of_lt (Nat.lt_of_lt_of_le lt2 (Nat.le_add_right _ _))
    have b1 : ∀ {i j : Nat}, i ≠ j → (N + i : Nat) ≠ N + j := fun h q => h (Nat.add_left_cancel q)
    exact ⟨b1 (by decide), b1 (by decide), b1 (i := 0) (by decide), b1 (by decide), b1 (by decide), b1 (j := 0) (by decide), b1 (by decide), b1 (j := 0) (by decide), b1 (by decide), b1 (i := 0) (by decide), a1 _, a1 _, a1 0, a1 _, a2 _, a2 _, a2 0, a2 _⟩
  obtain ⟨os, x1, x2, x3⟩ := S2.iterT (elts := elts) (kk := kk) (tpos := tpos) (I := N + 4) (fp := [N + 4, N + 2, N + 3, N, N + 1, l1, l2]) (wr := [N + 4, N + 3, N, N + 1]) (ks := [N + 4, N + 2, N + 3, N, N + 1]) (n := min vs1.toArray.size vs2.toArray.size) (ds := zipD xs ys) (h' := h')
      (fun w A hh => WalksT.zip2 hh (N + 4) (N + 2) (N + 3) N (N + 1) l1 l2 D vs1.toArray vs2.toArray)
      (allC (.head _) (allC (.tail _ (.tail _ (.head _))) (allC (.tail _ (.tail _ (.tail _ (.head _)))) (allC (.tail _ (.tail _ (.tail _ (.tail _ (.head _))))) allN))))
      (allC (ge _) (allC (ge _) (allC (ge _) (allC (ge 0) (allC (ge _) allN)))))
      (by simp)
      (allC (.inl (.head _)) (allC (.inl (.tail _ (.head _))) (allC (.inl (.tail _ (.tail _ (.head _)))) (allC (.inl (.tail _ (.tail _ (.tail _ (.head _))))) (allC (.inl (.tail _ (.tail _ (.tail _ (.tail _ (.head _)))))) (allC (.inr ⟨_, ec1, nd hd1⟩) (allC (.inr ⟨_, ec2, nd hd2⟩) allN)))))))
      (fun i h st => by
        obtain ⟨hz, hTI, ⟨a, b', hTO⟩, ⟨o1, g1, g1c, g1d⟩, ⟨o2, g2, g2c, g2d⟩, _, _⟩ := st
        exact allC ⟨_, hz, .fields rfl⟩ (allC ⟨_, hTI, .seq rfl⟩ (allC ⟨_, hTO, .seq rfl⟩ (allC ⟨_, g1, .fields g1d⟩ (allC ⟨_, g2, .fields g2d⟩ allN)))))
      (by simp [zipD, rr1.length, rr2.length])
      (fun i vals hi hP => by
        obtain ⟨x, y, hx, hy, rfl⟩ := hP
        obtain ⟨d, hd, rd⟩ := rr1.getv (k := i) (v := x) (by simpa using hx)
        obtain ⟨d', hd', rd'⟩ := rr2.getv (k := i) (v := y) (by simpa using hy)
        refine ⟨[d, d'], ?_, .cons rd (.cons rd' .nil)⟩
        unfold zipD
        rw [List.getElem?_map, (List.getElem?_zip_eq_some (z := (d, d'))).mpr ⟨hd, hd'⟩]; rfl)
      (fun w A s3 Q E hh st hQ => by
        obtain ⟨hz, hTI, ⟨a, b', hTO⟩, h1, h2, hl1, hl2⟩ := st
        have hend : vs1.toArray[min vs1.toArray.size vs2.toArray.size]? = none ∨ vs2.toArray[min vs1.toArray.size vs2.toArray.size]? = none := by
          rcases Nat.le_total vs1.toArray.size vs2.toArray.size with h | h
          · exact .inl (by rw [Nat.min_eq_left h]; exact Array.getElem?_eq_none (Nat.le_refl _))
          · exact .inr (by rw [Nat.min_eq_right h]; exact Array.getElem?_eq_none (Nat.le_refl _))
        exact wpAny_pyNext_zip_end hh D hz hTI hTO h1 h2 hl1 hl2 hend fun h' hk => hQ h' fun c o hc e =>
          hk c o (fun x => hc (by simp [x])) (fun x => hc (by simp [x])) (fun x => hc (by simp [x])) (fun x => hc (by simp [x])) e)
      (fun w A s3 Q E h0 st hks hQ => wpAny_pyIter_zip (by unfold IsZip; rw [hks _ (by simp)]; exact st.1) hQ)
      ⟨hz, hTI, ⟨_, _, hTO⟩, hi1, hi2, hL1.at fun o e => hk' _ _ e, hL2.at fun o e => hk' _ _ e⟩ hk' s2.toks
  exact hQ _ _ _ _ _ _ _ hk (c1.trans c2) (p1.trans p2) x1 x2 x3
end
/-! B19 -/
theorem by_index : typeLookup (.type "int") "__index__" = pure (some (.builtin "int.__index__")) := by rw [typeLookup_type, builtinLookup_eq_fast]; kernel_rfl
theorem by_int_bytes : typeLookup (.type "int") "__bytes__" = pure none := by rw [typeLookup_type, builtinLookup_eq_fast]; kernel_rfl
theorem by_bytes_bytes : typeLookup (.type "bytes") "__bytes__" = pure (some (.builtin "bytes.__bytes__")) := by rw [typeLookup_type, builtinLookup_eq_fast]; kernel_rfl
theorem by_ba_bytes : typeLookup (.type "bytearray") "__bytes__" = pure none := by rw [typeLookup_type, builtinLookup_eq_fast]; kernel_rfl
theorem by_ba_index : typeLookup (.type "bytearray") "__index__" = pure none := by rw [typeLookup_type, builtinLookup_eq_fast]; kernel_rfl
theorem by_ba_buffer : typeLookup (.type "bytearray") "__buffer__" = pure (some (.builtin "bytearray.__buffer__")) := by rw [typeLookup_type, builtinLookup_eq_fast]; kernel_rfl
theorem by_ba_release : typeLookup (.type "bytearray") "__release_buffer__" = pure (some (.builtin "bytearray.__release_buffer__")) := by rw [typeLookup_type, builtinLookup_eq_fast]; kernel_rfl
theorem by_ba_sub : isSubtype (.type "bytearray") (.type "bytearray") = pure true := by rw [isSubtype_type]; kernel_rfl
section
variable {prog : Program} {w : World} {A : Around} {E : Value → Shared → Prop} {s : Shared}
theorem bytes_call {a : Value} {Q : Value → Shared → Prop}
    (h : wpAny (model prog w) A.in1.in1 (Builtin.«bytes.__new__» ⟨[.type "bytes", a], []⟩) (fun fin s' => ∃ b t, fin = .done (.ret (.bytes b t)) ∧ Q (.bytes b t) s') E s) : wpAny (model prog w) A (call (.type "bytes") [a]) Q E s := by
  refine callType_codes (Q₁ := fun obj s₁ => s₁.TypeIs obj "bytes" ∧ Q obj s₁) F.bm_called (F.bm_typeCall _) F.entry_object_init ?_ fun obj s₁ h₁ => ?_
  · refine codeAny_of_tree ?_
    show wpAny _ A.in1.in1 (do checkBuiltinCall "bytes.__new__" ⟨[.type "bytes", a], []⟩; again (.builtin "bytes.__new__" ⟨[.type "bytes", a], []⟩)) _ _ s
    refine wpAny_bind (wpAny_of_eq (F.bm_newCall _) (wpAny_pure ⟨plainId_quiet F.bm_plain _, codeAny_builtin F.bm_entry ?_⟩))
    rw [Around.under_plainId F.bm_plain _]
    refine wpAny_mono h (fun fin s' h' => ?_) fun _ _ x => x
    obtain ⟨b, t, rfl, hq⟩ := h'
    exact ⟨PySem.W.typeIs_bytes _ _ _, hq⟩
  · exact ⟨h₁.1, F.args_object_init_2 obj _, object_init_meets F.bm_called.init.lookup F.bm_called.made (by decide) prog w A.in1 _ s₁ ⟨h₁.1, rfl, h₁.2⟩⟩
theorem bytes_prefix {a : Value} {Q : Fin → Shared → Prop} (tail : Sem Fin)
    (e : (Builtin.«bytes.__new__» ⟨[.type "bytes", a], []⟩ : Sem Fin) = tail) (h : wpAny (model prog w) A tail Q E s) : wpAny (model prog w) A (Builtin.«bytes.__new__» ⟨[.type "bytes", a], []⟩) Q E s := e ▸ h
/-- bytes(b) for bytes -/
theorem bytes_of_bytes {b : Array UInt8} {t : Tok} {Q : Value → Shared → Prop} (hQ : Q (.bytes b t) s) : wpAny (model prog w) A (call (.type "bytes") [.bytes b t]) Q E s := by
  refine bytes_call ?_
  unfold Builtin.«bytes.__new__»
  refine wpAny_bind (wpAny_of_eq (a := true) rfl ?_)
  refine bm_if_false rfl ?_
  refine wpAny_bind (wpAny_of_eq F.bm_sub ?_)
  refine bm_if_false rfl ?_
  refine wpAny_bind (wpAny_of_eq (F.bm_bind _) ?_)
  refine wpAny_bind (wpAny_of_eq (a := ()) rfl ?_)
  refine wpAny_bind (wpAny_of_eq (a := ()) rfl ?_)
  refine bm_if_false rfl ?_
  refine wpAny_bind (wpAny_of_eq (KBy.special_eq by_bytes_bytes) ?_)
  refine wpAny_bind (wpAny_rule ?_)
  refine wpAny_bind (wpAny_typeOf (PySem.W.typeIs_bytes _ _ _) ?_)
  exact wpAny_pure ⟨b, t, rfl, hQ⟩
/-- bytes(n) -/
theorem bytes_of_int {n : Int} {t : Tok} {Q : Value → Shared → Prop} (h0 : 0 ≤ n) (h1 : n ≤ 16777216) (hQ : ∀ u k, Q (.bytes (Array.replicate n.toNat 0) u) { s with toks := k }) : wpAny (model prog w) A (call (.type "bytes") [.int n t]) Q E s := by
  refine bytes_call ?_
  have hs1 : specialOf (.int n t) "__bytes__" = pure none := by
    have e : specialOf (.int n t) "__bytes__" = typeLookup (.type "int") "__bytes__" := rfl
    rw [e, by_int_bytes]
  have hs2 : specialOf (.int n t) "__index__" = pure (some (.builtin "int.__index__")) := by
    have e : specialOf (.int n t) "__index__" = typeLookup (.type "int") "__index__" := rfl
    rw [e, by_index]
  unfold Builtin.«bytes.__new__»
  refine wpAny_bind (wpAny_of_eq (a := true) rfl ?_)
  refine bm_if_false rfl ?_
  refine wpAny_bind (wpAny_of_eq F.bm_sub ?_)
  refine bm_if_false rfl ?_
  refine wpAny_bind (wpAny_of_eq (F.bm_bind _) ?_)
  refine wpAny_bind (wpAny_of_eq (a := ()) rfl ?_)
  refine wpAny_bind (wpAny_of_eq (a := ()) rfl ?_)
  refine bm_if_false rfl ?_
  refine wpAny_bind (wpAny_of_eq hs1 ?_)
  refine wpAny_bind (wpAny_of_eq (a := false) rfl ?_)
  refine bm_if_false rfl ?_
  refine wpAny_bind (wpAny_of_eq hs2 ?_)
  refine bm_if_false rfl ?_
  refine wpAny_bind (wpAny_of_eq (a := .ok n) rfl ?_)
  have f1 : Builtin.Bytes.fitsIndex n = true := by unfold Builtin.Bytes.fitsIndex; simp only [Bool.and_eq_true, decide_eq_true_eq]; (exact ob37 h1 h0)
  dsimp only
  refine bm_if_false (by rw [f1]; rfl) ?_
  refine wpAny_ite ?_
  rw [if_neg (by (exact ob13 h0))]
  refine wpAny_ite ?_
  rw [if_neg (by (exact ob38 h1))]
  refine bm_if_false (KBy.tooLong_not (by (exact ob39 h1))) ?_
  refine wpAny_bind (wpAny_rule (wpAny_bind (wpAny_mkBytes ?_ (by rw [Array.size_replicate, sizeLine_eq]; (exact ob39 h1)))))
  exact wpAny_pure ⟨_, _, rfl, hQ _ _⟩
theorem ba_own {a : Addr} {o : Obj} {M : Model} {Q : Bool → Shared → Prop} (ho : s.heap.get? a = some o) (hc : o.cls = .type "bytearray") (hQ : Q true s) : wpAny M A (Builtin.Bytes.slotIsOwn (.ref a) "__buffer__") Q E s := by
  have hT : s.TypeIs (.ref a) "bytearray" := ⟨o, ho, hc⟩
  unfold Builtin.Bytes.slotIsOwn
  refine wpAny_bind (wpAny_specialOf hT by_ba_buffer ?_)
  have h1 : "bytearray.__buffer__".endsWith ("." ++ "__buffer__") = true := by decide +kernel
  have h2 : "bytearray.__buffer__".dropRight ("__buffer__".length + 1) = "bytearray" := by decide +kernel
  dsimp only
  rw [h1, h2]
  exact wpAny_isInstance hT by_ba_sub hQ
theorem ba_rel {a : Addr} {o : Obj} {M : Model} {Q : Bool → Shared → Prop} (ho : s.heap.get? a = some o) (hc : o.cls = .type "bytearray") (hQ : Q false s) : wpAny M A (Builtin.Bytes.ownRelease (.ref a)) Q E s := by
  have hT : s.TypeIs (.ref a) "bytearray" := ⟨o, ho, hc⟩
  unfold Builtin.Bytes.ownRelease
  refine wpAny_bind ?_
  unfold Builtin.Bytes.slotIsOwn
  refine wpAny_bind (wpAny_specialOf hT by_ba_release ?_)
  have h1 : "bytearray.__release_buffer__".endsWith ("." ++ "__release_buffer__") = true := by decide +kernel
  have h2 : "bytearray.__release_buffer__".dropRight ("__release_buffer__".length + 1) = "bytearray" := by decide +kernel
  dsimp only
  rw [h1, h2]
  refine wpAny_isInstance hT by_ba_sub ?_
  exact wpAny_pure hQ
theorem ba_buffer {a : Addr} {o : Obj} {M : Model} {b : Array UInt8} {n : Nat} {id : String} {Q : Option (Array UInt8) → Shared → Prop} (ho : s.heap.get? a = some o) (hc : o.cls = .type "bytearray") (hd : o.data = .bytearray b n) (hQ : Q (some b) s) : wpAny M A (Builtin.Bytes.buffer? id (.ref a) true) Q E s := by
  have hT : s.TypeIs (.ref a) "bytearray" := ⟨o, ho, hc⟩
  unfold Builtin.Bytes.buffer?
  refine wpAny_bind (wpAny_specialOf hT by_ba_buffer ?_)
  refine wpAny_bind (ba_own ho hc ?_)
  refine bm_if_false rfl ?_
  refine wpAny_bind (wpAny_specialOf hT by_ba_buffer ?_)
  refine wpAny_bind (ba_rel ho hc ?_)
  refine bm_if_false rfl ?_
  refine wpAny_bind ?_
  unfold Builtin.Bytes.payload Builtin.Bytes.payload?
  refine wpAny_bind (wpAny_bind (wpAny_load ho ?_))
  rw [hd]
  exact wpAny_pure (wpAny_pure (wpAny_pure hQ))
/-- bytes(b) for a bytearray -/
theorem bytes_of_ba {a : Addr} {o : Obj} {b : Array UInt8} {n : Nat} {Q : Value → Shared → Prop} (ho : s.heap.get? a = some o) (hc : o.cls = .type "bytearray") (hd : o.data = .bytearray b n) (hz : b.size ≤ 16777216)
    (hQ : ∀ u k, Q (.bytes b u) { s with toks := k }) : wpAny (model prog w) A (call (.type "bytes") [.ref a]) Q E s := by
  refine bytes_call ?_
  have hT : s.TypeIs (.ref a) "bytearray" := ⟨o, ho, hc⟩
  unfold Builtin.«bytes.__new__»
  refine wpAny_bind (wpAny_of_eq (a := true) rfl ?_)
  refine bm_if_false rfl ?_
  refine wpAny_bind (wpAny_of_eq F.bm_sub ?_)
  refine bm_if_false rfl ?_
  refine wpAny_bind (wpAny_of_eq (F.bm_bind _) ?_)
  refine wpAny_bind (wpAny_of_eq (a := ()) rfl ?_)
  refine wpAny_bind (wpAny_of_eq (a := ()) rfl ?_)
  refine bm_if_false rfl ?_
  refine wpAny_bind (wpAny_specialOf hT by_ba_bytes ?_)
  refine wpAny_bind (wpAny_bind ?_)
  show wpAny _ _ (load a >>= _) _ _ _
  refine wpAny_bind (wpAny_load ho ?_)
  rw [hd]
  refine wpAny_pure (wpAny_pure ?_)
  refine bm_if_false rfl ?_
  refine wpAny_bind (wpAny_specialOf hT by_ba_index ?_)
  refine bm_if_true rfl ?_
  first
    | show wpAny _ _ (Builtin.Bytes.buffer? "bytes.__new__" (.ref a) true >>= _) _ _ _
    | (refine wpAny_bind ?_; show wpAny _ _ (Builtin.Bytes.buffer? "bytes.__new__" (.ref a) true >>= _) _ _ _)
  refine wpAny_bind (ba_buffer ho hc hd ?_)
  refine wpAny_bind (wpAny_rule (wpAny_bind (wpAny_mkBytes ?_ (by rw [sizeLine_eq]; exact hz))))
  first
    | exact wpAny_pure ⟨_, _, rfl, hQ _ _⟩
    | exact wpAny_pure (wpAny_pure ⟨_, _, rfl, hQ _ _⟩)
end
/-! B20 -/
theorem by_len : typeLookup (.type "bytes") "__len__" = pure (some (.builtin "bytes.__len__")) := by rw [typeLookup_type, builtinLookup_eq_fast]; kernel_rfl
noncomputable def ByteAt (b : Array UInt8) (i : Nat) (v : Value) : Prop := ∃ c u, b[i]? = some c ∧ v = .int (c.toNat : Int) u
section
variable {prog : Program} {w : World} {A : Around} {E : Value → Shared → Prop} {s : Shared}
theorem extend_bytes {R : Result → Shared → Prop} (hh : A.handled = none) (x : Array UInt8) (t : Tok) (S : Addr) (res : Value) (c₀ : Nat) (hS : s.heap.get? S = some { cls := .type "list", data := .seq #[] c₀ })
    (hR : ∀ h' tk acc' c', (∀ b o, b ≠ S → s.heap.get? b = some o → h'.get? b = some o) → h'.get? S = some { cls := .type "list", dict := none, data := .seq acc' c', slots := #[] } →
      ItemsOf (ByteAt x) acc' x.size → R (.ok (.ret res)) { s with heap := h', toks := tk }) (hn : x.size ≤ sizeLine) :
    wpAny (model prog w) A.in1 (Builtin.List.listExtendWith (.ref S) (.bytes x t) res)
      (fun fin s' => match fin with | .done f => R (.ok f) s' | .again c' => c'.quiet = true ∧ codeAny (model prog w) A c' R s') (fun e s' => R (.error e) s') s := by
  have hSI : S ≠ s.heap.objs.size := Nat.ne_of_lt (Heap.lt_size hS)
  have hSf : S ∉ [s.heap.objs.size] := fun hm => hSI (List.mem_singleton.mp hm)
  unfold Builtin.List.listExtendWith
  refine wpAny_bind (wpAny_typeOf (T := "bytes") (v := .bytes x t) rfl ?_)
  have h1 : Builtin.List.listSameRef (.ref S) (.bytes x t) = false := rfl
  have h2 : (Value.type "bytes" == Value.type "list") = false := by decide
  have h3 : (Value.type "bytes" == Value.type "tuple") = false := by decide
  simp only [h1, h2, h3, Bool.or_false, Bool.false_eq_true, if_false]
  refine wpAny_bind (KBw.pyIter_bytes ?_)
  refine wpAny_bind (wpAny_holding ?_)
  unfold Builtin.List.listLengthHint
  refine wpAny_bind (wpAny_specialOf (T := "bytes") (v := .bytes x t) rfl by_len ?_)
  wp_delta
  refine wpAny_bind (wpAny_isInstance (T := "bytes") (v := .bytes x t) (b := true) rfl (by rw [isSubtype_type]; kernel_rfl) ?_)
  show wpAny _ _ (typeOf (Value.bytes x t) >>= _) _ _ _
  refine wpAny_bind (wpAny_typeOf (T := "bytes") (v := .bytes x t) rfl ?_)
  refine wpAny_pure ?_
  rw [if_neg (by decide)]
  refine wpAny_pure ⟨plainId_quiet F.plain_extend_loop _, codeAny_extend_loopS (KBw.walks (A := A.in1) hh s.heap.objs.size x t).toS hn _ hSf _ x.size 0 _ _ _ rfl (Nat.zero_le _) ⟨_, Heap.get?_push_size _ rfl, rfl, rfl⟩ (Heap.get?_push_of_some _ hS) (ItemsOf.nil _) fun s' acc' c' hm hS' hacc => ?_⟩
  rw [Moved.eq_with hm]
  refine hR s'.heap s'.toks acc' c' (fun b ob hb e => hm.heap b ob (fun hmem => ?_) (Heap.get?_push_of_some _ e)) hS' hacc
  rcases List.mem_cons.mp hmem with e' | hmem
  · exact hb e'
  · exact absurd (Heap.lt_size e) (by rw [List.mem_singleton.mp hmem]; exact Nat.lt_irrefl _)
theorem list_of_bytes {Q : Value → Shared → Prop} (hh : A.handled = none) (x : Array UInt8) (t : Tok)
    (hQ : ∀ h' tk acc' c', (∀ b o, s.heap.get? b = some o → h'.get? b = some o) →
      h'.get? s.heap.objs.size = some { cls := .type "list", dict := none, data := .seq acc' c', slots := #[] } → ItemsOf (ByteAt x) acc' x.size → Q (.ref s.heap.objs.size) { s with heap := h', toks := tk }) (hn : x.size ≤ sizeLine) :
    wpAny (model prog w) A (call (.type "list") [.bytes x t]) Q E s := by
  refine callType_codes (Q₁ := fun obj s₁ => obj = .ref s.heap.objs.size ∧ s₁ = { s with heap := s.heap.push { cls := .type "list", data := .seq #[] } }) F.called_list (F.typeCall_list_1 _) F.entry_list_init
    (code_list_new _ ⟨rfl, rfl⟩) fun obj s₁ h₁ => ?_
  obtain ⟨rfl, rfl⟩ := h₁
  have hS : (s.heap.push { cls := .type "list", data := .seq #[] }).get? s.heap.objs.size = some { cls := .type "list", data := .seq #[] } := Heap.get?_push_size _ rfl
  refine ⟨⟨_, hS, rfl⟩, F.args_list_init_2 _ _, ?_⟩
  show wpAny _ _ (do let old ← Builtin.List.listItems (.ref s.heap.objs.size); Builtin.List.listUpdate (.ref s.heap.objs.size) (fun _ => #[]); letGo old.toList.reverse; Builtin.List.listExtendWith (.ref s.heap.objs.size) (.bytes x t) .none) _ _ _
  refine wpAny_bind ?_
  unfold Builtin.List.listItems
  refine wpAny_bind (wpAny_seqItems hS rfl (wpAny_pure ?_))
  show wpAny _ _ (updateSeq s.heap.objs.size (fun _ => #[]) >>= fun _ => letGo (#[] : Array Value).toList.reverse >>= fun _ => Builtin.List.listExtendWith (.ref s.heap.objs.size) (.bytes x t) .none) _ _ _
  refine wpAny_bind (wpAny_updateSeq hS rfl ?_)
  have hS₂ := Heap.get?_update_self (Obj.mapSeq (fun _ => (#[] : Array Value))) hS rfl
  refine wpAny_bind (wpAny_letGo ?_)
  refine extend_bytes (A := A.in1) (hn := hn) hh x t _ .none _ hS₂ fun h' tk acc' c' hk hS' hacc => ?_
  refine ⟨rfl, hQ h' tk acc' c' (fun b o e => ?_) hS' hacc⟩
  have hb : b ≠ s.heap.objs.size := Nat.ne_of_lt (Heap.lt_size e)
  exact hk b o hb ((Heap.get?_update_other _ _ (Ne.symm hb)).trans (Heap.get?_push_of_some _ e))
theorem collect_bytes {Q : List Value → Shared → Prop} (hh : A.handled = none) (x : Array UInt8) (t : Tok)
    (hQ : ∀ s' acc, (∀ b o, s.heap.get? b = some o → s'.heap.get? b = some o) → s'.gens = s.gens → s'.drawn = s.drawn → s'.os = s.os → ItemsOf (ByteAt x) acc x.size → Q acc.toList s') (hn : x.size ≤ sizeLine) :
    wpAny (model prog w) A (collect (.bytes x t)) Q E s := by
  unfold collect
  refine wpAny_bind (wpAny_runValue (codeAny_builtin F.entry_proto_collect ?_))
  rw [Around.under_plainId F.plain_proto_collect _]
  show wpAny _ A.in1 (newList [] >>= fun l => again (.builtin "list.__iadd__" ⟨[l, .bytes x t], []⟩)) _ _ s
  refine wpAny_bind (wpAny_newObj_type ?_)
  refine wpAny_pure ⟨plainId_quiet F.plain_list_iadd _, codeAny_builtin F.entry_list_iadd ?_⟩
  rw [Around.under_plainId F.plain_list_iadd _]
  show wpAny _ A.in1 (Builtin.List.listExtendWith (.ref s.heap.objs.size) (.bytes x t) (.ref s.heap.objs.size)) _ _ _
  have hS : (s.heap.push { cls := .type "list", data := .seq ([] : List Value).toArray }).get? s.heap.objs.size = some { cls := .type "list", data := .seq #[] } := Heap.get?_push_size _ rfl
  have fin' : ∀ s' : Shared, (∃ acc' c' h' tk, s' = { s with heap := h', toks := tk } ∧ (∀ b o, s.heap.get? b = some o → h'.get? b = some o) ∧ h'.get? s.heap.objs.size = some { cls := .type "list", dict := none, data := .seq acc' c', slots := #[] } ∧ ItemsOf (ByteAt x) acc' x.size) → wpAny (model prog w) A (match Value.ref s.heap.objs.size with
      | Value.ref a => do
        match (← load a).data with
          | Data.seq xs _ => pure xs.toList
          | _ => unsupported "internal:collect"
      | _ => unsupported "internal:collect") Q E s' := by
    rintro s' ⟨acc', c', h', tk, rfl, hk, hS', hacc⟩
    show wpAny _ A (load s.heap.objs.size >>= _) _ _ _
    refine wpAny_bind (wpAny_load hS' ?_)
    exact wpAny_pure (hQ _ acc' hk rfl rfl rfl hacc)
  refine wpAny_mono (extend_bytes (hn := hn) (A := A) (R := fun r s' => r = .ok (.ret (.ref s.heap.objs.size)) ∧ (∃ acc' c' h' tk, s' = { s with heap := h', toks := tk } ∧ (∀ b o, s.heap.get? b = some o → h'.get? b = some o) ∧ h'.get? s.heap.objs.size = some { cls := .type "list", dict := none, data := .seq acc' c', slots := #[] } ∧ ItemsOf (ByteAt x) acc' x.size))
    (s := { s with heap := s.heap.push { cls := .type "list", data := .seq ([] : List Value).toArray } }) hh x t s.heap.objs.size (.ref s.heap.objs.size) 0 hS fun h' tk acc' c' hk hS' hacc => ⟨rfl, acc', c', h', tk, rfl, fun b ob e => hk b ob (Nat.ne_of_lt (Heap.lt_size e)) (Heap.get?_push_of_some _ e), hS', hacc⟩) (fun fin s' h => ?_) (fun e s' h => ?_)
  · cases fin with
    | done f =>
      obtain ⟨e, hh⟩ := h
      cases e
      exact fin' s' hh
    | again c' => exact ⟨h.1, codeAny_mono h.2 fun r s'' hr => by obtain ⟨rfl, hh⟩ := hr; exact fin' s'' hh⟩
  · exact absurd h.1 (by simp)
open AutoSeq1 (wpAny_loadPart') in
theorem meets_tuple_bytes (x : Array UInt8) (t : Tok) (hsz : x.size ≤ sizeLine) :
    Meets (Builtin.«tuple.__new__» ⟨[.type "tuple", .bytes x t], []⟩)
      (fun A R s => A.handled = none ∧ ∀ (s' : Shared) (acc : Array Value), (∀ b o, s.heap.get? b = some o → s'.heap.get? b = some o) → s'.gens = s.gens → s'.drawn = s.drawn → s'.os = s.os → ItemsOf (ByteAt x) acc x.size →
        R (.ok (.ret (.ref s'.heap.objs.size))) { s' with heap := s'.heap.push { cls := .type "tuple", data := .seq acc } }) :=
  .of_wp fun prog w A R s h => by
    obtain ⟨hh, h⟩ := h
    have hsub := sub_tuple_self
    have hinit := init_tuple_lookup
    have hmh := madeHere_tuple
    have hT : s.TypeIs (.bytes x t) "bytes" := rfl
    have hh1 : A.in1.handled = none := hh
    wp_walk using wpAny_typeOf hT, collect_bytes (hn := hsz) hh1 x t
    intro s' acc hk hg hd hos hacc
    show wpAny _ _ (Builtin.Tuple.tupleExact acc.toList.toArray >>= fun v => ret v) _ _ _
    unfold Builtin.Tuple.tupleExact
    refine wpAny_bind (wpAny_newObj_type ?_ (show acc.toList.toArray.size ≤ sizeLine by simp only [Array.toArray_toList]; rw [hacc.1]; exact hsz))
    refine wpAny_pure ⟨_, rfl, ?_⟩
    have e : acc.toList.toArray = acc := by simp
    rw [e]
    exact h s' acc hk hg hd hos hacc
theorem tuple_of_bytes {Q : Value → Shared → Prop} (hh : A.handled = none) (x : Array UInt8) (t : Tok)
    (h : ∀ (h' : Heap) (tk : Nat) (acc : Array Value), (∀ b o, s.heap.get? b = some o → h'.get? b = some o) → ItemsOf (ByteAt x) acc x.size → Q (.ref h'.objs.size) { s with heap := h'.push { cls := .type "tuple", data := .seq acc }, toks := tk })
    (hsz : x.size ≤ sizeLine) :
    wpAny (model prog w) A (call (.type "tuple") [.bytes x t]) Q E s := by
  refine callType_new F.called_tuple (by decide) (F.typeCall_tuple_1 _) (F.newCall_tuple_1 _) (fun obj => F.args_object_init_2 obj _) F.entry_tuple_new
    (meets_tuple_bytes x t hsz) ⟨hh, fun s' acc hk hg hd hos hacc => ⟨⟨_, Heap.get?_push_size _ rfl, rfl⟩, ?_⟩⟩
  obtain ⟨h', g', d', tk', os'⟩ := s'
  have e1 : g' = s.gens := hg
  have e2 : d' = s.drawn := hd
  have e3 : os' = s.os := hos
  subst e1 e2 e3
  exact h h' tk' acc hk hacc
theorem itemsOf_rd {C : Cold} {x : Array UInt8} {acc : Array Value} (h : ItemsOf (ByteAt x) acc x.size) : RdAll C acc.toList ((KBw.bInts x).map .int) := by
  obtain ⟨hs, hi⟩ := h
  have key : ∀ (l : List Value) (m : List Int), l.length = m.length → (∀ (j : Nat) (v : Value), l[j]? = some v → ∃ k u, m[j]? = some k ∧ v = .int k u) → RdAll C l (m.map .int) := by
    intro l
    induction l with
    | nil => intro m hl _; cases m with
      | nil => exact .nil
      | cons _ _ => simp at hl
    | cons v l ih => intro m hl hv; cases m with
      | nil => simp at hl
      | cons k m =>
        obtain ⟨k', u, hk, rfl⟩ := hv 0 v rfl
        simp at hk; subst hk
        exact .cons (.int _ _) (ih m (by simpa using hl) fun j w hw => by simpa using hv (j + 1) w (by simpa using hw))
  refine key _ _ (by rw [Array.length_toList, hs, KBw.ints_length]) fun j v hv => ?_
  obtain ⟨c, u, hc, rfl⟩ := hi j v (by simpa using hv)
  exact ⟨_, u, KBw.ints_get hc, rfl⟩
end
/-! B21 -/
theorem bj_slot : Slot "bytes" "join" "bytes.join" :=
  .of (owner := "bytes") (n := "join") (by rw [typeLookup_type, builtinLookup_eq_fast]; kernel_rfl) (by decide +kernel) (by decide +kernel) (by decide +kernel)
    (by first | exact .inl (by decide +kernel) | exact .inr (by decide +kernel)) (by rw [isSubtype_type]; kernel_rfl)
theorem bj_type : typeOf (.builtin "bytes.join") = pure (.type "method_descriptor") := by show builtinType _ = _; rw [builtinType_eq_fast]; kernel_rfl
theorem bj_entry : entryFor table "bytes.join" = some Builtin.«bytes.join» := entryFor_of_tree (by kernel_rfl)
theorem bj_args (a b : Value) : argsOk "bytes.join" ⟨[a, b], []⟩ := by
  unfold argsOk; rw [signature?_of (id := "bytes.join") (n := ['n', 'i', 'o', 'j']) (o := ['s', 'e', 't', 'y', 'b']) (by kernel_rfl) FB.owner_bytes]; kernel_rfl
section
variable {M : Model} {A : Around} {E : Value → Shared → Prop} {s : Shared}
theorem forIn_steps {α β : Type} {Q : β → Shared → Prop} {f : α → β → Sem (ForInStep β)} (st : Nat → β) : ∀ (l : List α) (i : Nat),
    (∀ j x, l[j]? = some x → ∀ Q : ForInStep β → Shared → Prop, Q (.yield (st (i + j + 1))) s → wpAny M A (f x (st (i + j))) Q E s) → Q (st (i + l.length)) s → wpAny M A (forIn l (st i) f) Q E s
  | [], i, h, hQ => by rw [List.forIn_nil]; exact wpAny_pure hQ
  | x :: l, i, h, hQ => by
    rw [List.forIn_cons]
    refine wpAny_bind (h 0 x rfl _ ?_)
    refine forIn_steps st l (i + 1) (fun j y hy Q hq => ?_) (by rw [List.length_cons] at hQ; rwa [show i + 1 + l.length = i + (l.length + 1) by (exact Nat.add_right_comm _ _ _)])
    have := h (j + 1) y (by simpa using hy) Q (by rwa [show i + (j + 1) + 1 = i + 1 + j + 1 by (exact Nat.add_right_comm _ _ _)])
    rwa [show i + (j + 1) = i + 1 + j by (exact ob40)] at this

inductive BytesAre : List Value → List (Array UInt8) → Prop
  | nil : BytesAre [] []
  | cons (b : Array UInt8) (t : Tok) {vs : List Value} {bs : List (Array UInt8)} : BytesAre vs bs → BytesAre (.bytes b t :: vs) (b :: bs)
theorem BytesAre.length {vs : List Value} {bs : List (Array UInt8)} (h : BytesAre vs bs) : vs.length = bs.length := by
  induction h with
  | nil => rfl
  | cons _ _ _ ih => rw [List.length_cons, List.length_cons, ih]
theorem BytesAre.get {vs : List Value} {bs : List (Array UInt8)} (h : BytesAre vs bs) : ∀ {k : Nat}, k < vs.length → ∃ b t, vs[k]? = some (.bytes b t) ∧ bs[k]? = some b := by
  induction h with
  | nil => intro k hk; simp at hk
  | cons b t _ ih => intro k hk; cases k with
    | zero => exact ⟨b, t, rfl, rfl⟩
    | succ k => simpa using ih (by simpa using hk)
theorem BytesAre.heapless {vs : List Value} {bs : List (Array UInt8)} (h : BytesAre vs bs) : ∀ k, ((vs.take k).map fun v => (v, (none : Option Value))).any (·.1.onHeap) = false := by
  induction h with
  | nil => intro k; simp
  | cons b t _ ih => intro k; cases k with
    | zero => simp
    | succ k => simpa [Value.onHeap] using ih k
theorem joinLet {vs : List Value} {bs : List (Array UInt8)} (h : BytesAre vs bs) {keep : List Value} {Q : Unit → Shared → Prop} (hQ : Q () s) : wpAny M A (Builtin.Bytes.joinLetGo (vs.map fun v => (v, none)) keep) Q E s := by
  induction h with
  | nil => exact wpAny_pure hQ
  | cons b t _ ih =>
    rw [List.map_cons]
    show wpAny M A (do letGo (_ :: (none : Option Value).toList) _; Builtin.Bytes.joinLetGo _ _) _ _ _
    exact wpAny_bind (wpAny_letGo ih)
theorem take_eq {b : Array UInt8} {t : Tok} : Builtin.Bytes.takeBufferQuiet? "bytes.join" (.bytes b t) 0 = pure (some (b, none)) := by
  unfold Builtin.Bytes.takeBufferQuiet? Builtin.Bytes.takeBuffer?
  rw [KBy.special_eq KBy.look_buffer, KBy.own_buffer]
  show (do match ← (do return (← Builtin.Bytes.buffer? "bytes.join" (.bytes b t) (full := (0 : Int) == Builtin.Bytes.fullReadOnly)).map (·, (none : Option Value)) : Sem (Option (Array UInt8 × Option Value))).attempt with
      | .ok r => pure r
      | .error _ => rule "memoryview.buffer.refusal-replaced"; pure none) = _
  rw [buffer_eqF]
  rfl
end
section
variable {prog : Program} {w : World} {A : Around} {E : Value → Shared → Prop} {s : Shared}
theorem seq_any {α : Type} {l : Addr} {o : Obj} {vs : Array Value} {n : Nat} {f : Option (Array Value) → Sem α} {Q : α → Shared → Prop} (ho : s.heap.get? l = some o) (hd : o.data = .seq vs n) (hQ : wpAny (model prog w) A (f (some vs)) Q E s) : wpAny (model prog w) A (seqItems? (.ref l) >>= f) Q E s := by
  unfold seqItems?
  refine wpAny_bind (wpAny_bind (wpAny_load ho ?_))
  rw [hd]
  exact wpAny_pure hQ
theorem items_any {α : Type} {l : Addr} {f : Value → Sem α} {Q : α → Shared → Prop} (hT : s.TypeIs (.ref l) "list") (hQ : wpAny (model prog w) A (f (.ref l)) Q E s) : wpAny (model prog w) A (Builtin.Bytes.joinItems (.ref l) >>= f) Q E s := by
  unfold Builtin.Bytes.joinItems
  refine wpAny_bind (wpAny_bind (wpAny_typeOf hT ?_))
  rw [if_pos (by decide)]
  exact wpAny_pure hQ
theorem join_one {a b : Array UInt8} {t tb : Tok} {l : Addr} {o : Obj} {n : Nat} {Q : Value → Shared → Prop} (hT : s.TypeIs (.ref l) "list") (ho : s.heap.get? l = some o) (hd : o.data = .seq #[.bytes b tb] n)
    (hQ : ∀ u k, Q (.bytes b u) { s with toks := k }) : wpAny (model prog w) A (call (.builtin "bytes.join") [.bytes a t, .ref l]) Q E s := by
  refine wpAny_call_entry bj_slot (PySem.W.typeIs_bytes _ _ _) bj_entry ?_ (bj_args _ _)
  refine wpAny_bind (wpAny_of_eq (a := (.bytes a t, .ref l)) rfl (items_any hT (seq_any ho hd ?_)))
  delta PySem.Builtin.Bytes.joinM.match_1
  refine wpAny_bind (wpAny_typeOf (PySem.W.typeIs_bytes _ _ _) (wpAny_ite_true (by decide) (wpAny_bind (wpAny_rule (wpAny_pure ⟨_, rfl, hQ _ s.toks⟩)))))
theorem wpAny_dneg {α : Type} {c : Prop} [Decidable c] {x : c → Sem α} {y : ¬ c → Sem α} {Q : α → Shared → Prop} (h : ¬ c) (k : wpAny (model prog w) A (y h) Q E s) : wpAny (model prog w) A (dite c x y) Q E s := by rw [dif_neg h]; exact k
theorem range_any {α β : Type} {n : Nat} {b : β} {f : Nat → β → Sem (ForInStep β)} {g : β → Sem α} {Q : α → Shared → Prop} (h : wpAny (model prog w) A (forIn (List.range' 0 n 1) b f) (fun x s => wpAny (model prog w) A (g x) Q E s) E s) : wpAny (model prog w) A (forIn (Std.Legacy.Range.mk 0 n 1 (by decide)) b f >>= g) Q E s := by
  refine wpAny_bind ?_
  rw [Std.Legacy.Range.forIn_eq_forIn_range', show Std.Legacy.Range.size ⟨0, n, 1, by decide⟩ = n by simp [Std.Legacy.Range.size]]
  exact h
theorem forIn_from {β : Type} {Q : β → Shared → Prop} {f : Nat → β → Sem (ForInStep β)} (st : Nat → β) {n : Nat} {b r : β} (eb : b = st 0) (er : st n = r)
    (h : ∀ j, j < n → ∀ Q : ForInStep β → Shared → Prop, Q (.yield (st (j + 1))) s → wpAny (model prog w) A (f j (st j)) Q E s) (hQ : Q r s) : wpAny (model prog w) A (forIn (List.range' 0 n 1) b f) Q E s := by
  subst eb er
  refine forIn_steps st _ 0 (fun j x hj Q hq => ?_) (by rw [List.length_range', Nat.zero_add]; exact hQ)
  obtain ⟨hlt, hx⟩ := List.getElem?_eq_some_iff.mp hj
  rw [List.length_range'] at hlt
  rw [List.getElem_range', Nat.zero_add, Nat.one_mul] at hx
  subst hx
  rw [Nat.zero_add] at hq ⊢
  exact h _ hlt _ hq
theorem join_many {a : Array UInt8} {t : Tok} {l : Addr} {vs : List Value} {bs : List (Array UInt8)} {o : Obj} {n : Nat} {Q : Value → Shared → Prop} (hb : BytesAre vs bs) (hT : s.TypeIs (.ref l) "list") (ho : s.heap.get? l = some o) (hd : o.data = .seq vs.toArray n) (h1 : ¬ vs.toArray.size = 1)
    (hz : (Builtin.Bytes.joined a bs).size ≤ 16777216) (hz2 : Array.foldl (fun a x => a + x.size) (a.size * (bs.toArray.size - 1)) bs.toArray ≤ 16777216)
    (hQ : ∀ u k, Q (.bytes (Builtin.Bytes.joined a bs) u) { s with toks := k }) : wpAny (model prog w) A (call (.builtin "bytes.join") [.bytes a t, .ref l]) Q E s := by
  refine wpAny_call_entry bj_slot (PySem.W.typeIs_bytes _ _ _) bj_entry ?_ (bj_args _ _)
  refine wpAny_bind (wpAny_of_eq (a := (.bytes a t, .ref l)) rfl (items_any hT (seq_any ho hd ?_)))
  delta PySem.Builtin.Bytes.joinM.match_1
  have fin : ((bs.take vs.toArray.size).toArray, (vs.take vs.toArray.size).map fun v => (v, (none : Option Value))) = (bs.toArray, vs.map fun v => (v, none)) := by
    rw [List.size_toArray, List.take_length, hb.length, List.take_length]
  refine wpAny_ite_true rfl (wpAny_dneg h1 (range_any (forIn_from (fun k => ((bs.take k).toArray, (vs.take k).map fun v => (v, (none : Option Value)))) (by simp) fin (fun j hj Q hq => ?_) ?_)))
  · have : ∃ b tb, vs.toArray.getD j Value.none = .bytes b tb ∧ (bs.take j).toArray.push b = (bs.take (j + 1)).toArray ∧ (vs.take j).map (fun v => (v, (none : Option Value))) ++ [(.bytes b tb, none)] = (vs.take (j + 1)).map fun v => (v, none) := by
      rw [List.size_toArray] at hj
      obtain ⟨b, tb, hv, hbb⟩ := hb.get hj
      exact ⟨b, tb, by simp [Array.getD, hj, (List.getElem?_eq_some_iff.mp hv).2], by rw [List.take_add_one, hbb]; simp, by rw [List.take_add_one, hv]; simp⟩
    obtain ⟨b, tb, hg, e1, e2⟩ := this
    rw [← e1, ← e2] at hq
    refine seq_any ho hd (wpAny_ite_false (by rw [hb.heapless]; rfl) (wpAny_bind (wpAny_holding (wpAny_of_eq (by rw [hg]; exact take_eq) (seq_any ho hd ?_)))))
    refine wpAny_ite_false (by simp) (wpAny_pure ?_)
    rw [hg]
    exact hq
  · refine wpAny_bind (wpAny_of_eq (a := a) rfl (wpAny_ite_false (decide_eq_false ?_) ?_))
    · rw [Builtin.Bytes.tooLong, sizeLine_eq, decide_eq_true_eq]; exact Nat.not_lt.mpr hz2
    · show wpAny _ _ (mkBytes (Builtin.Bytes.joined a bs) >>= _) _ _ _
      exact wpAny_bind (wpAny_mkBytes (wpAny_bind (wpAny_holding (wpAny_point (wpAny_bind (joinLet hb (wpAny_pure ⟨_, rfl, hQ _ _⟩)))))) (by rw [sizeLine_eq]; exact hz))
theorem join_any {a : Array UInt8} {t : Tok} {l : Addr} {vs : List Value} {bs : List (Array UInt8)} {Q : Value → Shared → Prop} (hb : BytesAre vs bs) (hl : s.heap.IsList l vs.toArray)
    (hz : (Builtin.Bytes.joined a bs).size ≤ 16777216) (hz2 : Array.foldl (fun a x => a + x.size) (a.size * (bs.toArray.size - 1)) bs.toArray ≤ 16777216)
    (hQ : ∀ u k, Q (.bytes (Builtin.Bytes.joined a bs) u) { s with toks := k }) : wpAny (model prog w) A (call (.builtin "bytes.join") [.bytes a t, .ref l]) Q E s := by
  have hT : s.TypeIs (.ref l) "list" := hl.typeIs
  obtain ⟨o, ho, hc, n, hd⟩ := id hl
  by_cases h1 : vs.length = 1
  · obtain ⟨v, rfl⟩ := List.length_eq_one_iff.mp h1
    cases hb with
    | cons b' t' hb' =>
    cases hb'
    rw [show Builtin.Bytes.joined a [b'] = b' by simp [Builtin.Bytes.joined]] at hQ
    exact join_one hT ho hd hQ
  · exact join_many hb hT ho hd h1 hz hz2 hQ
end
/-! B22 -/
section
variable {B : Bs} {a : Act} {Δ : DE} {μ : List MO} {K : D → List MO → Prop} {pos p : Pos} {Kn : DE → List MO → Prop} {Kr : D → List MO → Prop}

/-- what bytes() makes of it -/
@[reducible] noncomputable def ToB : D → (List Int → Prop) → Prop
  | .list ds, K => ∃ ns : List Int, ds = ns.map .int ∧ (∀ n ∈ ns, 0 ≤ n ∧ n < 256) ∧ ns.length ≤ 16777216 ∧ K ns
  | .bytes ns, K => K ns
  | .int n, K => 0 ≤ n ∧ n ≤ 16777216 ∧ K (List.replicate n.toNat 0)
  | .barr ns, K => ns.length ≤ 16777216 ∧ K ns
  | _, _ => False
theorem ints_bytes {ns : List Int} (hr : ∀ n ∈ ns, 0 ≤ n ∧ n < 256) : KBw.bInts (ns.map fun n => n.toNat.toUInt8).toArray = ns := by
  unfold KBw.bInts
  simp only [List.map_map]
  induction ns with
  | nil => rfl
  | cons n ns ih =>
    rw [List.map_cons, ih fun m hm => hr m (.tail _ hm)]
    have h := hr n (.head _)
    simp only [Function.comp, List.cons.injEq, and_true]
    have : n.toNat < 256 := by (exact ob42 h)
    rw [show n.toNat.toUInt8.toNat = n.toNat from by simp [Nat.toUInt8, UInt8.toNat, UInt8.ofNat]; (exact ob43 h)]
    (exact ob44 h)
theorem Ev.toBytes {e : Expr} (h : Ev B a Δ μ e fun d μ1 => ToB d fun ns => K (.bytes ns) μ1) (hx : a.env.kindOf "bytes" = some .globalImplicit := by rfl) (hs : noStar [e] = true := by rfl) : Ev B a Δ μ (.Call (.Name "bytes" p) [e] [] pos) K :=
  Ev.callT (T := "bytes") (h.mono fun d μ1 k => OpL.one (t := fun v => PySem.call (.type "bytes") [v]) (fun B a Δ ok C ρ s v S r Q E hQ => by
    cases d <;> try exact k.elim
    · cases r
      obtain ⟨h0, h1, k⟩ := k
      refine bytes_of_int h0 h1 fun u t => hQ _ _ _ _ _ _ k (.refl _) List.prefix_rfl (S.tok _) (.of ?_)
      rename_i n _
      have e : List.replicate n.toNat (0 : Int) = KBw.bInts (Array.replicate n.toNat 0) := by simp [KBw.bInts]
      rw [e]; exact .bytes _ _
    · cases r
      exact bytes_of_bytes (hQ _ _ _ _ _ _ k (.refl _) List.prefix_rfl S (.of (.bytes _ _)))
    · obtain ⟨ns, rfl, hr, hz, k⟩ := k
      obtain ⟨l, vs, rfl, hl, rr⟩ := Rd.isList r S.cold
      have hi := rd_ints rr
      refine call_bytes_ints hl hi hr (by rw [hi.length, sizeLine_eq]; exact hz) ok.hh fun h' t' tk hk => ?_
      refine hQ _ _ _ _ _ _ k (.refl _) List.prefix_rfl (S.keep0 hk) (.of ?_)
      have e := ints_bytes hr
      conv in D.bytes ns => rw [← e]
      exact .bytes _ _
    · obtain ⟨hz, k⟩ := k
      obtain ⟨_, _, b0, n0, rfl, e, c, dd, rfl⟩ := Rd.barrI r
      obtain ⟨o, ho, hc, hd, _⟩ := S.cold _ _ e
      refine bytes_of_ba ho (hc.trans c) (hd.trans dd) (by rwa [KBw.ints_length] at hz) fun u tk => ?_
      exact hQ _ _ _ _ _ _ k (.refl _) List.prefix_rfl (S.tok _) (.of (.bytes _ _))) _ fun _ => rfl)
    PyProof.Rows.Boot.«bytes» (by simp [biNames]) hx (by simp) hs (by decide) rfl

/-- the items that list() and tuple() take -/
@[reducible] noncomputable def Its : D → (List D → Prop) → Prop
  | .list ds, K => ds.length ≤ 16777216 ∧ K ds
  | .bytes ns, K => ns.length ≤ 16777216 ∧ K (ns.map .int)
  | _, _ => False
theorem wp_toList {d : D} {B : Bs} {a : Act} {Δ : DE} (ok : ActOk B a) {C : Cold} {ρ : List Addr} {s : Shared} {v : Value} (S : St B a Δ C ρ μ s) (r : VRd C ρ v d) {P : List D → Prop} (k : Its d P) {Q : Value → Shared → Prop} {E : Value → Shared → Prop}
    (hQ : ∀ ds h' tk items c', P ds → (∀ b o, s.heap.get? b = some o → h'.get? b = some o) → h'.get? s.heap.objs.size = some { cls := .type "list", dict := none, data := .seq items c', slots := #[] } → RdAll C items.toList ds →
      Q (.ref s.heap.objs.size) { s with heap := h', toks := tk }) : wpAny (model pw B.w) a.A (PySem.call (.type "list") [v]) Q E s := by
  cases d <;> try exact k.elim
  · cases r
    refine list_of_bytes ok.hh _ _ (fun h' tk acc' c' hk ho hi => hQ _ _ _ _ _ k.2 hk ho (itemsOf_rd hi)) ?_
    have := k.1; rw [KBw.ints_length] at this; rw [sizeLine_eq]; exact this
  · obtain ⟨l, vs, rfl, hl, rr⟩ := Rd.isList r S.cold
    obtain ⟨o, ho, hc, n, hd⟩ := hl
    refine call_list_seq l (.inl rfl) ho hc hd (fun h' c' hk ho' => hQ _ _ s.toks _ _ k.2 hk ho' (by simpa using rr)) ?_
    have := rr.length; rw [List.size_toArray, sizeLine_eq, this]; exact k.1
theorem Ev.toList {e : Expr} (h : Ev B a Δ μ e fun d μ1 => Its d fun ds => K (.list ds) μ1) (hx : a.env.kindOf "list" = some .globalImplicit := by rfl) (hs : noStar [e] = true := by rfl) : Ev B a Δ μ (.Call (.Name "list" p) [e] [] pos) K :=
  Ev.callT (T := "list") (h.mono fun d μ1 k => OpL.one (t := fun v => PySem.call (.type "list") [v]) (fun B a Δ ok C ρ s v S r Q E hQ => by
    refine wp_toList ok S r k fun ds h' tk items c' hP hk ho hr => ?_
    obtain ⟨le, S'⟩ := S.put (tk := tk) hk (Nat.le_refl _) (p := (true, _)) ⟨_, ho, .rfl _⟩
    exact hQ _ _ _ _ _ _ hP le List.prefix_rfl S' (.of (.list (vs := items.toList) (n := c') (Cold.put_self _ _ _) rfl rfl (by simp) (hr.mono le)))) _ fun _ => rfl)
    PyProof.Rows.Boot.«list» (by simp [biNames]) hx (by simp) hs (by decide) rfl
/-- a copy that will be changed -/
theorem Ev.toListM {e : Expr} (h : Ev B a Δ μ e fun d μ1 => Its d fun ds => K (.obj μ1.length) (μ1 ++ [.list ds])) (hx : a.env.kindOf "list" = some .globalImplicit := by rfl) (hs : noStar [e] = true := by rfl) : Ev B a Δ μ (.Call (.Name "list" p) [e] [] pos) K :=
  Ev.callT (T := "list") (h.mono fun d μ1 k => OpL.one (t := fun v => PySem.call (.type "list") [v]) (fun B a Δ ok C ρ s v S r Q E hQ => by
    refine wp_toList ok S r k fun ds h' tk items c' hP hk ho hr => ?_
    have q := S.putM (tk := tk) hk (Nat.le_refl _) (Heap.lt_size ho) (m := .list ds) ⟨_, items, c', ho, rfl, rfl, hr, rfl⟩
    exact hQ _ _ _ _ _ _ hP (.refl _) (List.prefix_append _ _) q ⟨_, by rw [← S.mu.len]; simp, rfl⟩) _ fun _ => rfl)
    PyProof.Rows.Boot.«list» (by simp [biNames]) hx (by simp) hs (by decide) rfl
theorem Ev.toTuple {e : Expr} (h : Ev B a Δ μ e fun d μ1 => Its d fun ds => K (.tuple ds) μ1) (hx : a.env.kindOf "tuple" = some .globalImplicit := by rfl) (hs : noStar [e] = true := by rfl) : Ev B a Δ μ (.Call (.Name "tuple" p) [e] [] pos) K :=
  Ev.callT (T := "tuple") (h.mono fun d μ1 k => OpL.one (t := fun v => PySem.call (.type "tuple") [v]) (fun B a Δ ok C ρ s v S r Q E hQ => by
    have fin : ∀ ds (h' : Heap) tk (items : Array Value), K (.tuple ds) μ1 → (∀ b o, s.heap.get? b = some o → h'.get? b = some o) → RdAll C items.toList ds → Q (.ref h'.objs.size) { s with heap := h'.push { cls := .type "tuple", data := .seq items }, toks := tk } := fun ds h' tk items hK hk hr => by
      obtain ⟨le, S'⟩ := (S.keep0 (tk := tk) hk).put (tk := tk) (h' := h'.push { cls := .type "tuple", data := .seq items }) (fun b o e => Heap.get?_push_of_some _ e) (Nat.le_refl _) (p := (true, { cls := .type "tuple", data := .seq items })) ⟨_, Heap.get?_push_size _ rfl, .rfl _⟩
      exact hQ _ _ _ _ _ _ hK le List.prefix_rfl S' (.of (.tuple (vs := items.toList) (n := 0) (Cold.put_self _ _ _) rfl (by simp) (hr.mono le)))
    cases d <;> try exact k.elim
    · cases r
      refine tuple_of_bytes ok.hh _ _ (fun h' tk acc hk hi => fin _ h' tk acc k.2 hk (itemsOf_rd hi)) ?_
      have := k.1; rw [KBw.ints_length] at this; rw [sizeLine_eq]; exact this
    · obtain ⟨l, vs, rfl, hl, rr⟩ := Rd.isList r S.cold
      refine call_tuple_list hl (fun h' hk => fin _ h' s.toks _ k.2 hk (by simpa using rr)) ?_
      have := rr.length; rw [List.size_toArray, sizeLine_eq, this]; exact k.1) _ fun _ => rfl)
    PyProof.Rows.Boot.«tuple» (by simp [biNames]) hx (by simp) hs (by decide) rfl
end
/-! B23 -/
theorem ba_slot_getitem : Slot "bytearray" "__getitem__" "bytearray.__getitem__" :=
  .of (owner := "bytearray") (n := "__getitem__") (by rw [typeLookup_type, builtinLookup_eq_fast]; kernel_rfl) (by decide +kernel) (by decide +kernel) (by decide +kernel)
    (by first | exact .inl (by decide +kernel) | exact .inr (by decide +kernel)) (by rw [isSubtype_type]; kernel_rfl)
theorem ba_entry_getitem : entryFor table "bytearray.__getitem__" = some Builtin.«bytearray.__getitem__» := entryFor_of_tree (by kernel_rfl)
theorem ba_args_getitem (a b : Value) : argsOk "bytearray.__getitem__" ⟨[a, b], []⟩ := by
  unfold argsOk; rw [signature?_of (id := "bytearray.__getitem__") (n := ['_', '_', 'm', 'e', 't', 'i', 't', 'e', 'g', '_', '_']) (o := ['y', 'a', 'r', 'r', 'a', 'e', 't', 'y', 'b']) (by kernel_rfl) ba_owner]; kernel_rfl
theorem ba_slot_iter : Slot "bytearray" "__iter__" "bytearray.__iter__" :=
  .of (owner := "bytearray") (n := "__iter__") (by rw [typeLookup_type, builtinLookup_eq_fast]; kernel_rfl) (by decide +kernel) (by decide +kernel) (by decide +kernel)
    (by first | exact .inl (by decide +kernel) | exact .inr (by decide +kernel)) (by rw [isSubtype_type]; kernel_rfl)
theorem ba_entry_iter : entryFor table "bytearray.__iter__" = some Builtin.«bytearray.__iter__» := entryFor_of_tree (by kernel_rfl)
theorem ba_args_iter (a : Value) : argsOk "bytearray.__iter__" ⟨[a], []⟩ := by
  unfold argsOk; rw [signature?_of (id := "bytearray.__iter__") (n := ['_', '_', 'r', 'e', 't', 'i', '_', '_']) (o := ['y', 'a', 'r', 'r', 'a', 'e', 't', 'y', 'b']) (by kernel_rfl) ba_owner]; kernel_rfl
theorem bi_slot_next : Slot "bytearray_iterator" "__next__" "bytearray_iterator.__next__" :=
  .of (owner := "bytearray_iterator") (n := "__next__") (by rw [typeLookup_type, builtinLookup_eq_fast]; kernel_rfl) (by decide +kernel) (by decide +kernel) (by decide +kernel)
    (by first | exact .inl (by decide +kernel) | exact .inr (by decide +kernel)) (by rw [isSubtype_type]; kernel_rfl)
theorem bi_slot_self : Slot "bytearray_iterator" "__iter__" "bytearray_iterator.__iter__" :=
  .of (owner := "bytearray_iterator") (n := "__iter__") (by rw [typeLookup_type, builtinLookup_eq_fast]; kernel_rfl) (by decide +kernel) (by decide +kernel) (by decide +kernel)
    (by first | exact .inl (by decide +kernel) | exact .inr (by decide +kernel)) (by rw [isSubtype_type]; kernel_rfl)
theorem bi_entry_next : entryFor table "bytearray_iterator.__next__" = some Builtin.«bytearray_iterator.__next__» := entryFor_of_tree (by kernel_rfl)
theorem bi_entry_self : entryFor table "bytearray_iterator.__iter__" = some Builtin.«dict_keyiterator.__iter__» := entryFor_alias (id' := "dict_keyiterator.__iter__") (by kernel_rfl) rfl (by decide +kernel) (by kernel_rfl)
theorem bi_args_next (a : Value) : argsOk "bytearray_iterator.__next__" ⟨[a], []⟩ := by unfold argsOk; kernel_rfl
theorem bi_args_self (a : Value) : argsOk "bytearray_iterator.__iter__" ⟨[a], []⟩ := by unfold argsOk; kernel_rfl
section
variable {prog : Program} {w : World} {A : Around} {E : Value → Shared → Prop} {s : Shared}
theorem ba_getItem {l : Addr} {o : Obj} {b : Array UInt8} {n : Nat} {k : Int} {t : Tok} {c : UInt8} {Q : Value → Shared → Prop} (ho : s.heap.get? l = some o) (hc : o.cls = .type "bytearray") (hd : o.data = .bytearray b n)
    (h0 : 0 ≤ k) (hz : b.size ≤ 16777216) (hx : b[k.toNat]? = some c) (hQ : ∀ t' tk, Q (.int (c.toNat : Int) t') { s with toks := tk }) : wpAny (model prog w) A (getItem (.ref l) (.int k t)) Q E s := by
  have hT : s.TypeIs (.ref l) "bytearray" := ⟨o, ho, hc⟩
  have hlt : k.toNat < b.size := (Array.getElem?_eq_some_iff.mp hx).1
  unfold getItem
  refine wpAny_holding ?_
  refine wpAny_bind (wpAny_sequenceKey hT (by decide) ?_)
  refine wpAny_bind (wpAny_callSpecial?_slot (name := Str.ofString "__getitem__") hT ba_slot_getitem (wpAny_call_entry ba_slot_getitem hT ba_entry_getitem ?_ (ba_args_getitem _ _)))
  unfold Builtin.«bytearray.__getitem__»
  refine wpAny_bind (wpAny_of_eq (a := (.ref l, [.int k t])) rfl ?_)
  dsimp only
  refine wpAny_bind ?_
  unfold Builtin.Bytes.subscript?
  have hs2 : specialOf (.int k t) "__index__" = pure (some (.builtin "int.__index__")) := by
    have e : specialOf (.int k t) "__index__" = typeLookup (.type "int") "__index__" := rfl
    rw [e, by_index]
  refine wpAny_bind (wpAny_of_eq hs2 ?_)
  refine bm_if_false rfl ?_
  refine wpAny_bind (wpAny_of_eq (a := k) rfl ?_)
  have f1 : Builtin.Bytes.fitsIndex k = true := by unfold Builtin.Bytes.fitsIndex; simp only [Bool.and_eq_true, decide_eq_true_eq]; (exact ob45 h0 hlt hz)
  refine bm_if_false (by rw [f1]; rfl) ?_
  refine wpAny_pure ?_
  dsimp only
  refine wpAny_bind ?_
  unfold Builtin.Bytes.payload Builtin.Bytes.payload?
  refine wpAny_bind (wpAny_bind (wpAny_load ho ?_))
  rw [hd]
  refine wpAny_pure (wpAny_pure ?_)
  have e1 : seqIndex? k b.size = some k.toNat := by
    have e1 : ¬ (k < 0) := by (exact ob13 h0)
    have e2 : (decide (0 ≤ k) && decide (k < (b.size : Int))) = true := by simp only [Bool.and_eq_true, decide_eq_true_eq]; (exact ob14 h0 hlt)
    simp only [seqIndex?, e1, if_false, e2, if_true]
  rw [e1]
  simp only [Option.bind_some, hx]
  exact wpAny_bind (wpAny_mkInt (wpAny_pure ⟨_, rfl, wpAny_pure (hQ _ _)⟩))
noncomputable def BiAt (h : Heap) (a l : Addr) (i : Nat) : Prop := ∃ o, h.get? a = some o ∧ o.cls = .type "bytearray_iterator" ∧ o.data = .fields #[.ref l, .int i 0]
theorem BiAt.typeIs {a l : Addr} {i : Nat} (y : BiAt s.heap a l i) : s.TypeIs (.ref a) "bytearray_iterator" := let ⟨o, ho, hc, _⟩ := y; ⟨o, ho, hc⟩
theorem bi_pyIter {l : Addr} {o : Obj} {Q : Value → Shared → Prop} (ho : s.heap.get? l = some o) (hc : o.cls = .type "bytearray") (hQ : Q (.ref s.heap.objs.size) { s with heap := s.heap.push { cls := .type "bytearray_iterator", data := .fields #[.ref l, .int 0 0] } }) : wpAny (model prog w) A (pyIter (.ref l)) Q E s := by
  have hT : s.TypeIs (.ref l) "bytearray" := ⟨o, ho, hc⟩
  refine wpAny_pyIter_slot hT ba_slot_iter (wpAny_call_entry ba_slot_iter hT ba_entry_iter ?_ (ba_args_iter _))
  show wpAny _ _ (do ret (← newFields "bytearray_iterator" [.ref l, rawInt 0])) _ _ s
  exact wpAny_bind (wpAny_newObj_type (wpAny_pure ⟨_, rfl, "bytearray_iterator", _, ⟨_, Heap.get?_push_size _ rfl, rfl⟩, bi_slot_next.lookup, hQ⟩))
theorem bi_self {it l : Addr} {i : Nat} {Q : Value → Shared → Prop} (hit : BiAt s.heap it l i) (h : Q (.ref it) s) : wpAny (model prog w) A (pyIter (.ref it)) Q E s := by
  refine wpAny_pyIter_slot hit.typeIs bi_slot_self (wpAny_call_entry bi_slot_self hit.typeIs bi_entry_self ?_ (bi_args_self _))
  show wpAny _ _ (ret (.ref it)) _ _ s
  exact wpAny_pure ⟨_, rfl, "bytearray_iterator", _, hit.typeIs, bi_slot_next.lookup, h⟩
theorem bi_item {it l : Addr} {i : Nat} {ol : Obj} {b : Array UInt8} {n : Nat} {c : UInt8} {Q : Option Value → Shared → Prop} (hit : BiAt s.heap it l i) (hl : s.heap.get? l = some ol) (hld : ol.data = .bytearray b n) (hx : b[i]? = some c)
    (hQ : ∀ h', BiAt h' it l (i + 1) → Heap.SameBut it s.heap h' → Q (some (.int (c.toNat : Int) s.toks)) { s with heap := h', toks := s.toks + 1 }) : wpAny (model prog w) A (pyNext (.ref it)) Q E s := by
  obtain ⟨o, ho, hc, hd⟩ := id hit
  unfold pyNext
  refine wpAny_bind (wpAny_attempt (wpAny_callSpecial?_slot (name := PySem.Str.ofString "__next__") hit.typeIs bi_slot_next
    (wpAny_call_entry bi_slot_next hit.typeIs bi_entry_next ?_ (bi_args_next _))))
  show wpAny _ _ (field (.ref it) 0 >>= _) _ _ s
  refine wpAny_bind (wpAny_field ho hd (x := .ref l) rfl ?_)
  show wpAny _ _ (load l >>= _) _ _ s
  refine wpAny_bind (wpAny_load hl ?_)
  rw [hld]
  show wpAny _ _ (field (.ref it) 1 >>= _) _ _ s
  refine wpAny_bind (wpAny_field ho hd (x := .int i 0) rfl ?_)
  simp only [Int.toNat_natCast, hx]
  refine wpAny_bind (wpAny_setField ho hd (by simp) (wpAny_bind (wpAny_mkInt (wpAny_pure ⟨_, rfl, wpAny_pure (hQ _ ?_ (Heap.SameBut.update ..))⟩))))
  exact ⟨_, Heap.get?_update_self _ ho (Obj.isFreed_of_fields (Obj.data_mapFields hd _)), (Obj.cls_mapFields ..).trans hc, by
    rw [Obj.data_mapFields hd]; simp [rawInt]⟩
theorem bi_end {it l : Addr} {i : Nat} {ol : Obj} {b : Array UInt8} {n : Nat} {Q : Option Value → Shared → Prop} (hh : A.handled = none) (hit : BiAt s.heap it l i) (hl : s.heap.get? l = some ol) (hld : ol.data = .bytearray b n) (hx : b[i]? = none)
    (hQ : ∀ h', Heap.ExtBut it s.heap h' → Q none { s with heap := h' }) : wpAny (model prog w) A (pyNext (.ref it)) Q E s := by
  obtain ⟨o, ho, hc, hd⟩ := id hit
  unfold pyNext
  refine wpAny_bind (wpAny_attempt (wpAny_callSpecial?_slot (name := PySem.Str.ofString "__next__") hit.typeIs bi_slot_next
    (wpAny_call_entry bi_slot_next hit.typeIs bi_entry_next ?_ (bi_args_next _))))
  show wpAny _ _ (field (.ref it) 0 >>= _) _ _ s
  refine wpAny_bind (wpAny_field ho hd (x := .ref l) rfl ?_)
  show wpAny _ _ (load l >>= _) _ _ s
  refine wpAny_bind (wpAny_load hl ?_)
  rw [hld]
  show wpAny _ _ (field (.ref it) 1 >>= _) _ _ s
  refine wpAny_bind (wpAny_field ho hd (x := .int i 0) rfl ?_)
  simp only [Int.toNat_natCast, hx]
  refine wpAny_bind (wpAny_rule (wpAny_bind (wpAny_setField ho hd (by simp) (wpAny_bind (wpAny_letGo ?_)))))
  show wpAny _ _ (newExc (.type "StopIteration") [] >>= _) _ _ _
  refine wpAny_bind ?_
  simp only [newExc, newTuple]
  refine wpAny_bind (wpAny_newObj_type ?_ (by size_fits))
  refine wpAny_bind (m := firstArgMember _ _) (wpAny_of_eq (a := Value.none) (by first | rfl | (simp only [firstArgMember]; rfl)) ?_)
  refine wpAny_newObj_type ?_ (by size_fits)
  simp only [raiseNew]
  refine wpAny_bind (wpAny_handled ?_)
  rw [show A.in1.handled = none from hh]
  refine wpAny_bind (wpAny_pure (wpAny_throw ?_))
  refine wpAny_bind (wpAny_isInstance (T := "StopIteration") (b := true) ⟨_, Heap.get?_push_size _ rfl, rfl⟩ isSubtype_stop ?_)
  exact wpAny_pure (hQ _ (((Heap.SameBut.update ..).extBut.push _).push _))
end
section
variable {B : Bs} {a : Act} {Δ : DE} {C : Cold} {ρ : List Addr} {μ : List MO} {s : Shared} {tg : Expr}
theorem simple_barr {it l : Addr} {ol : Obj} {b : Array UInt8} {n : Nat} (hl : C l = some (true, ol)) (hd : ol.data = .bytearray b n) :
    Simple it C ((KBw.bInts b).map .int) (fun i o => o.cls = .type "bytearray_iterator" ∧ o.data = .fields #[.ref l, .int i 0]) where
  plain := fun i o h => ⟨.fields h.2, _, h.1, by decide⟩
  item := fun i d w A s Q E o hx hh ci ho hP hQ => by
    obtain ⟨o1, ho1, q1, q2, _⟩ := ci _ _ hl
    rw [List.getElem?_map] at hx
    have hi : i < b.size := by
      cases e : (KBw.bInts b)[i]? with
      | none => rw [e] at hx; cases hx
      | some k => rw [← KBw.ints_length]; exact (List.getElem?_eq_some_iff.mp e).1
    have hb : b[i]? = some b[i] := Array.getElem?_eq_getElem hi
    rw [KBw.ints_get hb] at hx
    cases hx
    refine bi_item ⟨o, ho, hP.1, hP.2⟩ ho1 (q2.trans hd) hb fun h' hit hs => ?_
    obtain ⟨o', ho', hc', hd'⟩ := hit
    exact hQ _ h' _ o' ho' ⟨hc', hd'⟩ (fun b o hb e => hs.extBut b o hb e) (.int _ _)
  self := fun i w A s Q E o ho hP hQ => bi_self (l := l) (i := i) ⟨o, ho, hP.1, hP.2⟩ hQ
  done := fun w A s Q E o hh ci ho hP hQ => by
    obtain ⟨o1, ho1, q1, q2, _⟩ := ci _ _ hl
    exact bi_end hh (l := l) (i := b.size) ⟨o, ho, hP.1, by rw [hP.2]; simp [KBw.ints_length]⟩ ho1 (q2.trans hd) (by simp) fun h' hs => hQ h' fun b o hb e => hs b o hb e
theorem EvIter.barr {e : Expr} {K : List D → List MO → Prop} (h : Ev B a Δ μ e fun d μ1 => ∃ ns, d = .barr ns ∧ K (ns.map .int) μ1) : EvIter B a Δ μ tg e K := fun ok C ρ s S Q E hQ hE =>
  h ok C ρ s S _ E (fun v d C1 ρ1 μ1 s1 k1 c1 p1 S1 r1 => by
    obtain ⟨ns, rfl, hk⟩ := k1
    obtain ⟨l, ol, b, n, rfl, e, c, dd, rfl⟩ := Rd.barrI r1
    obtain ⟨o1, ho1, q1, q2, _⟩ := S1.cold _ _ e
    obtain ⟨x1, x2, x3⟩ := S1.iter1 (tg := tg) (simple_barr e dd) (o := { cls := .type "bytearray_iterator", data := .fields #[.ref l, .int 0 0] }) ⟨rfl, rfl⟩ rfl s1.toks
    exact bi_pyIter ho1 (q1.trans c) (hQ _ _ _ _ _ _ _ hk c1 p1 x1 x2 x3)) hE
end
section
variable {B : Bs} {a : Act} {Δ : DE} {μ : List MO} {K : D → List MO → Prop} {pos p : Pos} {Kn : DE → List MO → Prop} {Kr : D → List MO → Prop}
/-- an item of a changed bytearray -/
theorem Ev.itemB {x : Str} {k : Nat} {slice : Expr} {q : Pos} (hx : Δ.lookup x = some (.obj k)) (h : Ev B a Δ μ slice fun d μ1 => ∃ i ns n, d = .int i ∧ 0 ≤ i ∧ μ1[k]? = some (.barr ns) ∧ ns.length ≤ 16777216 ∧ ns[i.toNat]? = some n ∧ K (.int n) μ1)
    (hs : ∀ o i, subscripted slice false o i = operate [o, i] (getItem o i) := by intro _ _; with_unfolding_all rfl) (hd : (x == ("__debug__" : Str)) = false := by rfl) : Ev B a Δ μ (.Subscript (.Name x q) slice pos) K := fun ok C ρ s S Q E hQ hE => by
  refine PyProof.Rows.Subscript_ (wpAny_Name (wp_name ok S hx fun v hv => h ok C ρ s S _ E (fun v2 d2 C2 ρ2 μ2 s2 k2 c2 p2 S2 r2 => ?_) hE) hd)
  obtain ⟨i, ns, n, rfl, h0, hm, hz, hn, hk⟩ := k2
  cases r2
  obtain ⟨l, hl, rfl⟩ := VRd.mono (d := .obj k) hv c2 p2
  obtain ⟨o, b, ho, hc, hdd, rfl, _⟩ := S2.mu.at_ _ _ _ hl hm
  have hi : i.toNat < b.size := by rw [← KBw.ints_length]; exact (List.getElem?_eq_some_iff.mp hn).1
  have hb : b[i.toNat]? = some b[i.toNat] := Array.getElem?_eq_getElem hi
  have hn' := KBw.ints_get hb
  rw [hn] at hn'; cases hn'
  refine PyProof.Rows.tail_any (T := "bytearray") ⟨o, ho, hc⟩ ba_slot_getitem.lookup (ba_getItem ho hc hdd h0 (by rwa [KBw.ints_length] at hz) hb fun t' tk => ?_) (hs _ _)
  exact hQ _ _ _ _ _ _ hk c2 p2 (S2.tok _) (.int _ _)
end
/-! B24 -/
theorem rd_bytes {C : Cold} : ∀ {vs : List Value} {bss : List (List Int)}, RdAll C vs (bss.map .bytes) → ∃ bs, BytesAre vs bs ∧ bs.map KBw.bInts = bss
  | [], [], _ => ⟨[], .nil, rfl⟩
  | _ :: _, n :: ns, h => by
    cases h with
    | cons h r =>
      obtain ⟨bs, h1, h2⟩ := rd_bytes r
      obtain ⟨b, t, rfl, rfl⟩ := h.bytesI
      exact ⟨b :: bs, .cons b t h1, by rw [List.map_cons, h2]⟩
  | [], _ :: _, h => nomatch h
  | _ :: _, [], h => nomatch h
theorem rd_b {C : Cold} {v : Value} {ns : List Int} (h : Rd C v (.bytes ns)) : ∃ b t, v = .bytes b t ∧ KBw.bInts b = ns := by cases h; exact ⟨_, _, rfl, rfl⟩
theorem joined_nil (bs : List (Array UInt8)) : KBw.bInts (Builtin.Bytes.joined #[] bs) = (bs.map KBw.bInts).flatten := by
  have key : ∀ (l : List (Array UInt8 × Nat)) (acc : Array UInt8), KBw.bInts (l.foldl (fun out (p : Array UInt8 × Nat) => (if p.2 > 0 then out ++ #[] else out) ++ p.1) acc) = KBw.bInts acc ++ (l.map fun p => KBw.bInts p.1).flatten := by
    intro l
    induction l with
    | nil => intro acc; simp
    | cons p l ih => intro acc; rw [List.foldl_cons, ih]; simp [bI_append]
  have e := key bs.zipIdx #[]
  have e2 : (bs.zipIdx.map fun p => KBw.bInts p.1) = bs.map KBw.bInts := by
    have : (bs.zipIdx.map fun p => KBw.bInts p.1) = (bs.zipIdx.map Prod.fst).map KBw.bInts := by rw [List.map_map]; rfl
    rw [this, List.zipIdx_map_fst]
  rw [e2] at e
  simpa [Builtin.Bytes.joined, KBw.bInts] using e
section
variable {B : Bs} {a : Act} {Δ Δ' : DE} {C : Cold} {ρ : List Addr} {μ : List MO} {s : Shared} {K : D → List MO → Prop} {pos p : Pos} {Kn : DE → List MO → Prop} {Kr : D → List MO → Prop}
theorem Ev.joinB {o e : Expr} {apos : Pos} (h : Ev B a Δ μ o fun d1 μ1 => d1 = .bytes [] ∧ Ev B a Δ μ1 e fun d2 μ2 => ∃ bss : List (List Int), d2 = .list (bss.map .bytes) ∧ bss.flatten.length ≤ 16777216 ∧ K (.bytes bss.flatten) μ2)
    (hbase : attributeBase o "join" a.env (eval o a.env) = eval o a.env := by rfl) (hline : (apos.endLine == pos.line) = true := by rfl) (hs : noStar [e] = true := by rfl) :
    Ev B a Δ μ (.Call (.Attribute o "join" apos) [e] [] pos) K :=
  Ev.meth (T := "bytes") (id := "bytes.join") FB.plainAttrs_bytes bj_slot bj_type (h.mono fun d1 μ1 k1 => by
    obtain ⟨rfl, he⟩ := k1
    refine ⟨rfl, he.mono fun d2 μ2 k2 => ?_⟩
    obtain ⟨bss, rfl, hz, hk⟩ := k2
    refine OpL.two (t := fun v w => PySem.call (.builtin "bytes.join") [v, w]) (fun B a Δ ok C ρ s v w S hv hw' Q E hQ => ?_) _ fun _ _ => rfl
    obtain ⟨l, vs, rfl, hl, r⟩ := Rd.isList hw' S.cold
    obtain ⟨bs, hb, rfl⟩ := rd_bytes r
    have hv' : ∃ t, v = .bytes #[] t := by
      obtain ⟨b, t, rfl, e⟩ := rd_b hv
      exact ⟨t, by rw [show b = #[] from bI_inj e]⟩
    obtain ⟨t, rfl⟩ := hv'
    have ej := joined_nil bs
    have hlen : (Builtin.Bytes.joined #[] bs).size = ((bs.map KBw.bInts).flatten).length := by rw [← ej, KBw.ints_length]
    have hfold : ∀ (l : List (Array UInt8)) (n : Nat), l.foldl (fun a x => a + x.size) n = n + ((l.map KBw.bInts).flatten).length := by
      intro l
      induction l with
      | nil => intro n; simp
      | cons b l ih => intro n; rw [List.foldl_cons, ih]; simp [KBw.ints_length]; (exact ob46)
    refine join_any hb hl (by rw [hlen]; exact hz) ?_ fun u k => ?_
    · rw [List.foldl_toArray', hfold]
      simp only [List.size_toArray, List.length_nil, Nat.zero_mul, Nat.zero_add]
      exact hz
      simp
    · refine hQ _ _ _ _ _ _ hk (.refl _) List.prefix_rfl (S.tok _) (.of ?_)
      rw [← ej]; exact .bytes _ _) hbase hline hs

/-- a changed object is changed no more: a name of it reads it as data from now on -/
theorem St.still (S : St B a Δ C ρ μ s) {x : Str} {i : Nat} {m : MO} {d : D} (hx : Δ.lookup x = some (.obj i)) (hm : μ[i]? = some m) (hd : (∃ ds, m = .list ds ∧ d = .list ds) ∨ ∃ ns, m = .barr ns ∧ d = .barr ns) :
    ∃ C', C.le C' ∧ St B a ((x, d) :: Δ) C' ρ (μ.set i .dead) s := by
  obtain ⟨mm, hn, hq⟩ := id S.ns
  obtain ⟨v, hv, hb⟩ := hq x _ hx
  obtain ⟨b, hρ, rfl⟩ := hv
  have fin : ∀ (p : Bool × Obj), m.live = true → Has s.heap b p → (∀ C', C' b = some p → C.le C' → Rd C' (.ref b) d) → ∃ C', C.le C' ∧ St B a ((x, d) :: Δ) C' ρ (μ.set i .dead) s := fun p hl hp hr => by
    obtain ⟨le, S'⟩ := S.freeze hρ hm hl hp
    refine ⟨_, le, { S' with ns := ?_ }⟩
    obtain ⟨m2, hn2, hq2⟩ := S'.ns
    refine ⟨mm, hn, fun y e he => ?_⟩
    rw [lookup_cons] at he
    by_cases hy : y = x
    · rw [if_pos hy] at he; cases he; subst hy
      exact ⟨.ref b, .of (hr _ (Cold.put_self _ _ _) le), hb⟩
    · rw [if_neg hy] at he
      obtain ⟨u, hu, hbu⟩ := hq y e he
      exact ⟨u, hu.mono le List.prefix_rfl, hbu⟩
  rcases hd with ⟨ds, rfl, rfl⟩ | ⟨ns, rfl, rfl⟩
  · obtain ⟨o, vs, n, ho, hc, hdt, r, hdn⟩ := S.mu.at_ i b _ hρ hm
    exact fin (true, o) rfl ⟨o, ho, .rfl _⟩ fun C' h le => .list (vs := vs.toList) (n := n) h hc hdn (by simpa using hdt) (r.mono le)
  · obtain ⟨o, y, ho, hc, hdt, rfl, _⟩ := S.mu.at_ i b _ hρ hm
    exact fin (true, o) rfl ⟨o, ho, .rfl _⟩ fun C' h le => .barr h hc hdt
theorem Ex.still {ss : List Stmt} {x : Str} {i : Nat} {m : MO} {d : D} (hx : Δ.lookup x = some (.obj i)) (hm : μ[i]? = some m) (hd : (∃ ds, m = .list ds ∧ d = .list ds) ∨ ∃ ns, m = .barr ns ∧ d = .barr ns)
    (h : Ex B a ((x, d) :: Δ) (μ.set i .dead) ss Kn Kr) : Ex B a Δ μ ss Kn Kr := fun ok C ρ s S Q E hn hr hE => by
  obtain ⟨C1, le, S1⟩ := S.still hx hm hd
  exact h ok C1 ρ s S1 Q E (fun Δ' C' ρ' μ' s' k c p => hn Δ' C' ρ' μ' s' k (le.trans c) p) (fun v d Δ' C' ρ' μ' s' k c p => hr v d Δ' C' ρ' μ' s' k (le.trans c) p) (hE.mono le)
theorem ExC.still {ss : List Stmt} {x : Str} {i : Nat} {m : MO} {d : D} (hx : Δ.lookup x = some (.obj i)) (hm : μ[i]? = some m) (hd : (∃ ds, m = .list ds ∧ d = .list ds) ∨ ∃ ns, m = .barr ns ∧ d = .barr ns)
    (h : ExC B a ((x, d) :: Δ) (μ.set i .dead) ss Kn Kr) : ExC B a Δ μ ss Kn Kr := fun ok C ρ s S Q E hn hr hE => by
  obtain ⟨C1, le, S1⟩ := S.still hx hm hd
  exact h ok C1 ρ s S1 Q E (fun Δ' C' ρ' μ' s' k c p => hn Δ' C' ρ' μ' s' k (le.trans c) p) (fun v d Δ' C' ρ' μ' s' k c p => hr v d Δ' C' ρ' μ' s' k (le.trans c) p) (hE.mono le)

/-- a parameter with a default -/
theorem Binds.dflt {k : Nat} {x y : Str} {d : D} {i : Int} (hk : k = 12 ∨ k = 13) (hi : i = if k = 12 then 0 else 1)
    (h : ∀ fd v, fd.params = (fx k).1 → fd.kwdefaults = .none → ∃ kk : Option (Array Value) → Sem (List (Str × Value)), bindArgs fd ⟨[v], []⟩ = seqItems? fd.defaults >>= kk ∧ ∀ t, kk (some #[.int i t]) = pure [(x, v), (y, .int i t)]) : Binds B k [d] [(x, d), (y, .int i)] := fun fd hp hkd hdf C ρ s vs b ci r => by
  obtain ⟨v, rfl, h1⟩ := r.onev
  unfold DfOk at hdf
  rw [if_pos hk] at hdf
  obtain ⟨T, o, n, t, hT, ho, hd⟩ := hdf
  obtain ⟨kk, e1, e2⟩ := h fd v hp hkd
  rw [← hi] at hd
  exact ⟨_, BindsTo.of_defaults hT (b.keep _ _ ho) hd e1 (e2 t), rfl, h1, rfl, .int _ _, trivial⟩

/-- a def's promise: what it gives back is new and may be changed -/
noncomputable def FnM (B : Bs) (f : Str) (n : Nat) (ds : List D) (P : MO → Prop) : Prop :=
  ∃ fa o fd, B.mg f = some (.ref fa) ∧ B.s₀.heap.get? fa = some o ∧ o.data = .func fd ∧ ∀ A, A.handled = none → Room A (n + 1) → ∀ C s vs, Base B s → C.In s.heap → RdAll C vs ds → ∀ R : Result → Shared → Prop,
    (∀ b m C' s', P m → m.live = true → C.le C' → Base B s' → C'.In s'.heap → MAt C' s'.heap b m → C' b = none → B.s₀.heap.get? b = none → R (.ok (.ret (.ref b))) s') →
    codeAny (model pw B.w) A (.call (.ref fa) ⟨vs, []⟩) R s
theorem FnM.of {f : Str} {n k : Nat} {ds : List D} {Δ : DE} {P : MO → Prop} (st : Stat B) (hk : fnTab.lookup f = some k) (hb : Binds B k ds Δ) {ns : List Str} (hns : Δ.map (·.1) = ns) (hg : goodNames k ns = true)
    (body : ∀ A L fa cd, Ex B (actF A k f L fa cd none n) Δ [] (fx k).2.1 (fun _ _ => False) (fun d μ' => ∃ j m, d = .obj j ∧ μ'[j]? = some m ∧ m.live = true ∧ P m)) : FnM B f (n + 1) ds P := by
  refine st.fnE hk fun fa hmg o fd ho hc hd hcd hq hp hbody hsc hgl hclo hbu hkd hdf => ?_
  refine ⟨fa, o, fd, hmg, ho, hd, fun A hA room C s vs b ci r R hR => ?_⟩
  refine enter st hA room b ci Mu.nil (VAll.of r) hmg ho hd hcd hq hp hbody hsc hgl hclo hbu hkd hdf hb hns hg (fr := none) (fun _ e => by cases e) (fun L cd => body A L fa cd) (fun Δ' C' ρ' μ' s' k1 => k1.elim)
    (fun v d C' ρ' μ' s' k1 c1 p1 b1 ci1 M1 r1 => ?_) (fun _ _ _ e => by cases e)
  obtain ⟨j, m, rfl, hm, hl, hP⟩ := k1
  obtain ⟨b', hb', rfl⟩ := r1
  exact hR b' m C' s' hP hl c1 b1 ci1 (M1.at_ j b' m hb' hm) (M1.new j b' m hb' hm hl).1 (M1.new j b' m hb' hm hl).2
theorem Ev.callM {f : Str} {es : List Expr} {n k : Nat} (h : EvL B a Δ es [] fun ds μ1 => μ1 = [] ∧ ds.all D.tree = true ∧ FnM B f n ds fun m => K (.obj 0) [m]) (hx : a.env.kindOf f = some .globalImplicit := by rfl) (hk : fnTab.lookup f = some k := by rfl) (hn : n + 1 ≤ a.n := by decide)
    (hne : es ≠ [] := by simp) (hs : noStar es = true := by rfl) (hd : (f == ("__debug__" : Str)) = false := by rfl) :
    Ev B a Δ [] (.Call (.Name f p) es [] pos) K := fun ok C ρ s S Q E hQ hE => by
  obtain ⟨e, r, rfl⟩ : ∃ e r, es = e :: r := by cases es with | nil => exact absurd rfl hne | cons e r => exact ⟨e, r, rfl⟩
  refine ok.st.fnE hk fun fa hfa o fd ho _ hd' _ _ _ _ _ _ _ _ _ _ => ?_
  refine wpAny_Call_NameR (wp_global ok S hx hfa ?_ hd)
  refine callWith_def (o := o) (fd := fd) hd' (evL_wp (ps := pos) h hs ok C ρ s S _ E (fun vs ds C1 ρ1 μ1 s1 k1 c1 p1 S1 r1 => ⟨S1.base.keep _ _ ho, ?_⟩) hE) (starEach_cons hs)
  obtain ⟨rfl, ht, fa', o', fd', hfa', _, _, hc⟩ := k1
  rw [hfa] at hfa'; cases hfa'
  refine wpAny_call (hc a.A ok.hh (ok.room.le (by (exact Nat.lt_succ_of_lt hn))) (snapX C1 s1.heap fun b => LiveAt ρ1 [] b ∨ False) s1 vs S1.base (snapX_in S1.cold) ((r1.rd ht).mono snapX_le) _ fun b m C2 s2 hK hl le b2 ci hm hn2 hB => ?_)
  have e0 : ρ1 = [] := List.length_eq_zero_iff.mp S1.mu.len
  subst e0
  obtain ⟨cle, S2⟩ := S1.backG (P := fun _ => False) (ρ₁ := [b]) (μ₁ := [m]) id (fun _ _ _ h => h) (fun _ _ h => h) le b2 ci (List.nil_prefix) (Mu.one hm hn2 hB)
  exact hQ _ _ _ _ _ _ hK (c1.trans cle) (p1.trans List.nil_prefix) S2 ⟨b, rfl, rfl⟩
end
end Mine
end

section
set_option linter.unusedVariables false
open PySem
namespace Mine
/-! M1 -/
theorem xor_add_and (m : Nat) : ∀ n : Nat, (m ^^^ n) + (m &&& n) = (m ||| n) := by
  induction m using Nat.strongRecOn with
  | ind m ih =>
    intro n
    by_cases h0 : m = 0
    · subst h0; simp
    · have ih' := ih (m / 2) (by (exact ob47 h0)) (n / 2)
      rw [← Nat.or_div_two, ← Nat.and_div_two, ← Nat.xor_div_two] at ih'
      have key : (m ^^^ n) % 2 + (m &&& n) % 2 = (m ||| n) % 2 := by
        have e1 := @Nat.xor_mod_two_pow m n 1
        have e2 := @Nat.and_mod_two_pow m n 1
        have e3 := @Nat.or_mod_two_pow m n 1
        rw [Nat.pow_one] at e1 e2 e3
        rw [e1, e2, e3]
        rcases Nat.mod_two_eq_zero_or_one m with h | h <;> rcases Nat.mod_two_eq_zero_or_one n with k | k <;> rw [h, k] <;> rfl
      clear ih h0
      generalize (m ^^^ n) = x at *
      generalize (m &&& n) = y at *
      generalize (m ||| n) = z at *
      (exact ob48 ih' key)
theorem bitAnd_nat (m n : Nat) : Builtin.bitAnd (m : Int) (n : Int) = ((m &&& n : Nat) : Int) := by
  rw [PyProof.Rows.bitAnd_pp (Int.natCast_nonneg _) (Int.natCast_nonneg _)]; simp
theorem bitOr_nat (m n : Nat) : Builtin.bitOr (m : Int) (n : Int) = ((m ||| n : Nat) : Int) := by
  rw [PyProof.Rows.bitOr_and, bitAnd_nat]
  have := PyProof.Rows.nat_or_add_and m n
  (exact ob49 this)
theorem bitXor_nat (m n : Nat) : Builtin.bitXor (m : Int) (n : Int) = ((m ^^^ n : Nat) : Int) := by
  unfold Builtin.bitXor
  rw [bitOr_nat, bitAnd_nat]
  have := xor_add_and m n
  (exact ob50 this)

theorem xr {a b c : Nat} (h : a ^^^ c = b ^^^ c) : a = b := by
  have := congrArg (· ^^^ c) h
  simpa [Nat.xor_assoc] using this
theorem xl {a b c : Nat} (h : c ^^^ a = c ^^^ b) : a = b := xr (c := c) (by rw [Nat.xor_comm a, Nat.xor_comm b]; exact h)
noncomputable def crcP : Nat := 3988292384
noncomputable def cstep (r : Nat) : Nat := (r / 2) ^^^ (if r % 2 = 1 then crcP else 0)
noncomputable def cstep4 (r : Nat) : Nat := cstep (cstep (cstep (cstep r)))
noncomputable def crcOct (r o : Nat) : Nat := cstep4 (cstep4 (r ^^^ o))
noncomputable def crcN (l : List Nat) : Nat := (l.foldl crcOct 4294967295) ^^^ 4294967295
theorem cstep_lt {r : Nat} (h : r < 2 ^ 32) : cstep r < 2 ^ 32 := by
  unfold cstep
  refine Nat.xor_lt_two_pow (by (exact ob51 h)) ?_
  split <;> simp [crcP]
theorem cstep4_lt {r : Nat} (h : r < 2 ^ 32) : cstep4 r < 2 ^ 32 := cstep_lt (cstep_lt (cstep_lt (cstep_lt h)))
theorem crcOct_lt {r o : Nat} (h : r < 2 ^ 32) (k : o < 256) : crcOct r o < 2 ^ 32 := cstep4_lt (cstep4_lt (Nat.xor_lt_two_pow h (by (exact ob52 k))))
theorem cstep_xor (a b : Nat) : cstep (a ^^^ b) = cstep a ^^^ cstep b := by
  unfold cstep
  rw [Nat.xor_div_two]
  have x1 := @Nat.xor_mod_two_eq_one a b
  have ha : a % 2 = 0 ∨ a % 2 = 1 := by (exact Nat.mod_two_eq_zero_or_one _)
  have hb : b % 2 = 0 ∨ b % 2 = 1 := by (grind)
  have e : ∀ x y : Nat, x ^^^ y ^^^ (0 : Nat) = x ^^^ y := fun x y => by simp
  rcases ha with ha | ha <;> rcases hb with hb | hb
  · rw [if_neg (by (exact ob53 x1 ha hb)), if_neg (by (exact ob54 ha)), if_neg (by (exact ob54 hb))]; simp
  · rw [if_pos (by (exact ob55 x1 ha hb)), if_neg (by (exact ob54 ha)), if_pos (by omega)]; simp [Nat.xor_assoc]
  · rw [if_pos (by (exact ob56 x1 hb ha)), if_pos (by omega), if_neg (by (exact ob54 hb)), Nat.xor_zero, Nat.xor_assoc, Nat.xor_comm (b / 2), ← Nat.xor_assoc]
  · rw [if_neg (by (exact ob57 x1 hb ha)), if_pos (by omega), if_pos (by omega)]
    rw [Nat.xor_zero, Nat.xor_assoc, ← Nat.xor_assoc crcP, Nat.xor_comm crcP, Nat.xor_assoc (b / 2), Nat.xor_self, Nat.xor_zero]
theorem cstep_two (y : Nat) : cstep (2 * y) = y := by
  unfold cstep
  rw [if_neg (by (exact ob58)), Nat.xor_zero]; (exact ob59)
theorem split16 (x : Nat) : x = (x % 16) ^^^ (16 * (x / 16)) := by
  have e := Nat.two_pow_add_eq_or_of_lt (i := 4) (b := x % 16) (by (exact ob60)) (x / 16)
  have h0 : (x % 16) &&& (16 * (x / 16)) = 0 := by
    rw [Nat.and_comm]
    have := PyProof.Rows.nat_or_add_and (16 * (x / 16)) (x % 16)
    rw [show (2 : Nat) ^ 4 = 16 by rfl] at e
    (exact ob61 e this)
  have := xor_add_and (x % 16) (16 * (x / 16))
  have o := PyProof.Rows.nat_or_add_and (x % 16) (16 * (x / 16))
  (exact ob62 h0 o this)
/-- the step by a nibble -/
theorem cstep4_nib (x : Nat) : cstep4 x = cstep4 (x % 16) ^^^ (x / 16) := by
  conv => lhs; rw [split16 x]
  unfold cstep4
  rw [cstep_xor, cstep_xor, cstep_xor, cstep_xor]
  congr 1
  rw [show 16 * (x / 16) = 2 * (2 * (2 * (2 * (x / 16)))) by (exact ob63), cstep_two, cstep_two, cstep_two, cstep_two]

/-- the law's own way: with the octet's bits one after another -/
noncomputable def lstep (o k r : Nat) : Nat := (r / 2) ^^^ (if (r + o / 2 ^ k) % 2 = 1 then crcP else 0)
noncomputable def lsteps (o : Nat) : Nat → Nat → Nat
  | 0, r => r
  | k + 1, r => lstep o k (lsteps o k r)
theorem lstep_x (o k r : Nat) : cstep (r ^^^ (o / 2 ^ k)) = lstep o k r ^^^ (o / 2 ^ (k + 1)) := by
  unfold cstep lstep
  rw [Nat.xor_div_two]
  have x1 := @Nat.xor_mod_two_eq_one r (o / 2 ^ k)
  have e : o / 2 ^ k / 2 = o / 2 ^ (k + 1) := by rw [Nat.div_div_eq_div_mul, Nat.pow_succ]
  rw [e]
  by_cases h : (r + o / 2 ^ k) % 2 = 1
  · rw [if_pos h, if_pos (by (exact ob64 x1 h)), Nat.xor_assoc, Nat.xor_comm (o / 2 ^ (k + 1)), Nat.xor_assoc]
  · rw [if_neg h, if_neg (by (exact ob65 h x1))]; simp
theorem lsteps_oct (o r : Nat) (ho : o < 256) : lsteps o 8 r = crcOct r o := by
  have key : ∀ k, lsteps o k r ^^^ (o / 2 ^ k) = Nat.repeat cstep k (r ^^^ o) := by
    intro k
    induction k with
    | zero => simp [lsteps, Nat.repeat]
    | succ k ih =>
      rw [Nat.repeat, ← ih, lstep_x]; rfl
  have := key 8
  rw [show o / 2 ^ 8 = 0 from Nat.div_eq_of_lt (by omega), Nat.xor_zero] at this
  exact this

theorem cstep_inj {a b : Nat} (ha : a < 2 ^ 32) (hb : b < 2 ^ 32) (h : cstep a = cstep b) : a = b := by
  have top : ∀ x : Nat, x < 2 ^ 31 → (x ^^^ crcP).testBit 31 = true := fun x hx => by
    rw [Nat.testBit_xor, Nat.testBit_lt_two_pow hx]; decide
  have low : ∀ x : Nat, x < 2 ^ 31 → x.testBit 31 = false := fun x hx => Nat.testBit_lt_two_pow hx
  have ha2 : a / 2 < 2 ^ 31 := by (exact ob66 ha)
  have hb2 : b / 2 < 2 ^ 31 := by (exact ob66 hb)
  unfold cstep at h
  by_cases pa : a % 2 = 1 <;> by_cases pb : b % 2 = 1
  · rw [if_pos pa, if_pos pb] at h
    have := xr h
    (exact ob67 this pb pa)
  · rw [if_pos pa, if_neg pb, Nat.xor_zero] at h
    have t := top _ ha2; rw [h, low _ hb2] at t; cases t
  · rw [if_neg pa, if_pos pb, Nat.xor_zero] at h
    have t := top _ hb2; rw [← h, low _ ha2] at t; cases t
  · rw [if_neg pa, if_neg pb, Nat.xor_zero, Nat.xor_zero] at h; (exact ob68 pb h pa)
theorem cstep4_inj {a b : Nat} (ha : a < 2 ^ 32) (hb : b < 2 ^ 32) (h : cstep4 a = cstep4 b) : a = b :=
  cstep_inj ha hb (cstep_inj (cstep_lt ha) (cstep_lt hb) (cstep_inj (cstep_lt (cstep_lt ha)) (cstep_lt (cstep_lt hb)) (cstep_inj (cstep_lt (cstep_lt (cstep_lt ha))) (cstep_lt (cstep_lt (cstep_lt hb))) h)))
theorem crcOct_inj {a b o p : Nat} (ha : a < 2 ^ 32) (hb : b < 2 ^ 32) (ho : o < 256) (hp : p < 256) (h : crcOct a o = crcOct b p) : a ^^^ o = b ^^^ p := by
  have h1 : a ^^^ o < 2 ^ 32 := Nat.xor_lt_two_pow ha (by (exact ob52 ho))
  have h2 : b ^^^ p < 2 ^ 32 := Nat.xor_lt_two_pow hb (by (exact ob52 hp))
  exact cstep4_inj h1 h2 (cstep4_inj (cstep4_lt h1) (cstep4_lt h2) h)
theorem fold_lt : ∀ (l : List Nat) (r : Nat), r < 2 ^ 32 → (∀ o ∈ l, o < 256) → l.foldl crcOct r < 2 ^ 32
  | [], r, h, _ => h
  | o :: l, r, h, k => fold_lt l _ (crcOct_lt h (k o (.head _))) fun p hp => k p (.tail _ hp)
theorem fold_inj : ∀ (l : List Nat) (a b : Nat), a < 2 ^ 32 → b < 2 ^ 32 → (∀ o ∈ l, o < 256) → l.foldl crcOct a = l.foldl crcOct b → a = b
  | [], a, b, _, _, _, h => h
  | o :: l, a, b, ha, hb, k, h => by
    have ho := k o (.head _)
    have := fold_inj l _ _ (crcOct_lt ha ho) (crcOct_lt hb ho) (fun p hp => k p (.tail _ hp)) h
    have := crcOct_inj ha hb ho ho this
    exact xr this
theorem fold_set : ∀ (l : List Nat) (r i v : Nat), r < 2 ^ 32 → (∀ o ∈ l, o < 256) → v < 256 → (hi : i < l.length) → l[i] ≠ v → (l.set i v).foldl crcOct r ≠ l.foldl crcOct r
  | [], _, _, _, _, _, _, hi, _ => absurd hi (by simp)
  | o :: l, r, 0, v, hr, k, hv, _, hne => fun h => by
    have ho := k o (.head _)
    have := fold_inj l _ _ (crcOct_lt hr hv) (crcOct_lt hr ho) (fun p hp => k p (.tail _ hp)) h
    have := crcOct_inj hr hr hv ho this
    exact hne (xl this).symm
  | o :: l, r, i + 1, v, hr, k, hv, hi, hne => fold_set l _ i v (crcOct_lt hr (k o (.head _))) (fun p hp => k p (.tail _ hp)) hv (by simpa using hi) (by simpa using hne)
theorem crcN_lt {l : List Nat} (h : ∀ o ∈ l, o < 256) : crcN l < 2 ^ 32 := Nat.xor_lt_two_pow (fold_lt _ _ (by decide) h) (by decide)
/-- one octet changed: another sum -/
theorem crcN_set {l : List Nat} {i v : Nat} (h : ∀ o ∈ l, o < 256) (hv : v < 256) (hi : i < l.length) (hne : l[i] ≠ v) : crcN (l.set i v) ≠ crcN l := fun e =>
  fold_set l 4294967295 i v (by decide) h hv hi hne (xr e)
end Mine
end

section
open PySem PySem.W PySem.Calls PyProof.Rows
set_option maxRecDepth 100000
set_option linter.unusedVariables false
namespace Mine
/-! F1 -/
theorem bits_small {i : Int} (h : i.natAbs < 2 ^ 64) : Builtin.Int.intBits i ≤ 64 := PyProof.Rows.intBits_le h
theorem mulSmall {i j : Int} (h : i.natAbs < 2 ^ 64) (k : j.natAbs < 2 ^ 64) : IntMulOk i j := mulOk_of_bits (bits_small h) (bits_small k) (by decide)
noncomputable def SrcOk (a b : Int) : Prop := 0 ≤ a ∧ Builtin.Int.intBits a ≤ 2000000 ∧ 0 ≤ b ∧ b < 2147483648
noncomputable def src (a b : Int) : MO := .list [.int a, .int b]
theorem SrcOk.div {a b top : Int} (h : SrcOk a b) (h0 : 0 < top) : SrcOk (a / top) b := by
  refine ⟨Int.ediv_nonneg h.1 (by (exact Int.le_of_lt h0)), ?_, h.2.2⟩
  have := intBits_fdiv_le (y := top) h.2.1
  rwa [Int.fdiv_eq_ediv_of_nonneg _ (by (grind))] at this

theorem fn_take {B : Bs} (st : Stat B) {a b top : Int} (h : SrcOk a b) (h0 : 0 < top) (h1 : top ≤ 300) :
    FnS B "_law_take" 1 (src a b) [.int top] (fun d m' => ∃ r a' b', d = .int r ∧ 0 ≤ r ∧ r < top ∧ m' = src a' b' ∧ SrcOk a' b') := by
  refine FnS.of (k := 24) (Δ := [("source", .obj 0), ("top", .int top)]) (ns := ["source", "top"]) st (by rfl) (Binds.two (by decide) fun fd v w hp h1 h2 => by obtain ⟨⟩ := fd; subst hp h1 h2; rfl) rfl (by decide +kernel) fun A L fa cd => ?_
  unfold src
  have hd : SrcOk (a / top) b := h.div h0
  obtain ⟨ha0, hab, hb0, hb1⟩ := h
  refine Ex.cons ?_
  refine Ex1.ife ?_
  refine EvB.cmp ?_ (by rfl)
  refine Ev.item ?_
  refine Ev.name (by rfl) ?_
  refine Ev.kint ?_
  refine ⟨_, _, rfl, rfl, by first | omega | (simp only [List.length_cons, List.length_nil, List.length_map, List.length_append]; (exact Nat.le_add_left _ _)) | (simp; done) | decide, ?_⟩
  refine Ev.kint ?_
  refine Op.gt ?_
  refine ⟨_, rfl, ?_⟩
  refine ite_dec (fun ha => ?_) fun ha => ?_
  · refine Ex.cons ?_
    refine Ex1.assign ?_ (.inl (by rfl))
    refine Ev.binop ?_
    refine Ev.toInt ?_
    refine Ev.item ?_
    refine Ev.name (by rfl) ?_
    refine Ev.kint ?_
    refine ⟨_, _, rfl, rfl, by first | omega | (simp only [List.length_cons, List.length_nil, List.length_map, List.length_append]; (exact Nat.le_add_left _ _)) | (simp; done) | decide, ?_⟩
    refine .inl ⟨_, rfl, ?_⟩
    refine Ev.name (by rfl) ?_
    refine Op.mod (by omega) ?_
    refine Ex.cons ?_
    refine Ex1.setitem (i := 0) (by rfl) ?_
    refine Ev.binop ?_
    refine Ev.item ?_
    refine Ev.name (by rfl) ?_
    refine Ev.kint ?_
    refine ⟨_, _, rfl, rfl, by first | omega | (simp only [List.length_cons, List.length_nil, List.length_map, List.length_append]; (exact Nat.le_add_left _ _)) | (simp; done) | decide, ?_⟩
    refine Ev.name (by rfl) ?_
    refine Op.floordiv (by omega) (by (exact ob69 h1)) ?_
    refine Ev.kint ?_
    refine ⟨0, _, rfl, rfl, rfl, by decide, by first | omega | (simp only [List.length_cons, List.length_nil, List.length_map, List.length_append]; (exact Int.natCast_nonneg _)) | (simp; done) | decide, by first | omega | (simp only [List.length_cons, List.length_nil, List.length_map, List.length_append]; (exact Nat.le_add_left _ _)) | (simp; done) | decide, ?_⟩
    refine Ex.cons ?_
    refine Ex1.ret ?_
    refine Ev.name (by rfl) ?_
    exact ⟨rfl, _, _, rfl, rfl, _, a / top, b, rfl, Int.emod_nonneg _ (by (exact ob70 h0)), Int.emod_lt_of_pos _ h0, rfl, hd⟩
  · refine Ex.nil ?_
    refine Ex.cons ?_
    refine Ex1.setitem (i := 0) (by rfl) ?_
    refine Ev.binop ?_
    refine Ev.toInt ?_
    refine Ev.binop ?_
    refine Ev.binop ?_
    refine Ev.item ?_
    refine Ev.name (by rfl) ?_
    refine Ev.kint ?_
    refine ⟨_, _, rfl, rfl, by first | omega | (simp only [List.length_cons, List.length_nil, List.length_map, List.length_append]; (exact Nat.le_add_left _ _)) | (simp; done) | decide, ?_⟩
    refine Ev.kint ?_
    refine Op.mul (mulSmall (by (exact ob71 hb1 hb0)) (by (exact Nat.le_add_left _ _))) ?_
    refine Ev.kint ?_
    refine Op.add ?_
    refine .inl ⟨_, rfl, ?_⟩
    refine Ev.kint ?_
    refine Op.mod (by (exact Int.natCast_nonneg _)) ?_
    refine Ev.kint ?_
    refine ⟨1, _, rfl, rfl, rfl, by decide, by first | omega | (simp only [List.length_cons, List.length_nil, List.length_map, List.length_append]; (exact Int.natCast_nonneg _)) | (simp; done) | decide, by first | omega | (simp only [List.length_cons, List.length_nil, List.length_map, List.length_append]; (exact Nat.le_add_left _ _)) | (simp; done) | decide, ?_⟩
    have e0 := Int.emod_nonneg (b * 39373 + 7) (show (2147483647 : Int) ≠ 0 by decide)
    have e1 := Int.emod_lt_of_pos (b * 39373 + 7) (show (0 : Int) < 2147483647 by decide)
    refine Ex.cons ?_
    refine Ex1.ret ?_
    refine Ev.binop ?_
    refine Ev.binop ?_
    refine Ev.binop ?_
    refine Ev.toInt ?_
    refine Ev.binop ?_
    refine Ev.item ?_
    refine Ev.name (by rfl) ?_
    refine Ev.kint ?_
    refine ⟨_, _, rfl, rfl, by first | omega | (simp only [List.length_cons, List.length_nil, List.length_map, List.length_append]; omega) | (simp; done) | decide, ?_⟩
    refine Ev.item ?_
    refine Ev.name (by rfl) ?_
    refine Ev.kint ?_
    refine ⟨_, _, rfl, rfl, by first | omega | (simp only [List.length_cons, List.length_nil, List.length_map, List.length_append]; omega) | (simp; done) | decide, ?_⟩
    refine Op.mul (mulSmall (by (exact ob72)) (by (exact ob72))) ?_
    refine .inl ⟨_, rfl, ?_⟩
    refine Ev.kint ?_
    refine Op.mod (by (exact Int.natCast_nonneg _)) ?_
    refine Ev.kint ?_
    refine Op.floordiv (by (exact Int.natCast_nonneg _)) (by (exact Int.natCast_nonneg _)) ?_
    refine Ev.name (by rfl) ?_
    refine Op.mod (by omega) ?_
    exact ⟨rfl, _, _, rfl, rfl, _, _, _, rfl, Int.emod_nonneg _ (by (exact ob70 h0)), Int.emod_lt_of_pos _ h0, rfl, ha0, hab, e0, by show _ < _; (exact ob73)⟩
/-! W0 -/
theorem FnP.any {B : Bs} {f : Str} {n k : Nat} {flt : Bool} {ds : List D} {Δ : DE} {P : D → Prop} (st : Stat B) (hk : fnTab.lookup f = some k) (hb : Binds B k ds Δ) {ns : List Str} (hns : Δ.map (·.1) = ns) (hg : goodNames k ns = true)
    (body : ∀ A L fa cd fr, (flt = true → ∃ l, fr = some l) → Ex B (actF A k f L fa cd fr n) Δ [] (fx k).2.1 (fun _ _ => P .none) (fun d _ => d.tree = true ∧ P d)) : FnP B f (n + 1) flt ds P := by
  cases flt with
  | false => exact FnP.of st hk hb hns hg fun A L fa cd => body A L fa cd none (by intro h; cases h)
  | true => exact FnP.ofF st hk hb hns hg fun A L fa cd l => body A L fa cd (some l) fun _ => ⟨l, rfl⟩
theorem FnC.any {B : Bs} {f : Str} {n k : Nat} {flt : Bool} {ds : List D} {Δ : DE} {P : D → Prop} (st : Stat B) (hk : fnTab.lookup f = some k) (hb : Binds B k ds Δ) {ns : List Str} (hns : Δ.map (·.1) = ns) (hg : goodNames k ns = true)
    (body : ∀ A L fa cd fr, (flt = true → ∃ l, fr = some l) → ExC B (actF A k f L fa cd fr n) Δ [] (fx k).2.1 (fun _ _ => P .none) (fun d _ => d.tree = true ∧ P d)) : FnC B f (n + 1) flt ds P := by
  cases flt with
  | false => exact FnC.ofN st hk hb hns hg fun A L fa cd => body A L fa cd none (by intro h; cases h)
  | true => exact FnC.ofF st hk hb hns hg fun A L fa cd l => body A L fa cd (some l) fun _ => ⟨l, rfl⟩
theorem FnP.mono {B : Bs} {f : Str} {n : Nat} {flt : Bool} {ds : List D} {P P' : D → Prop} (h : FnP B f n flt ds P) (k : ∀ d, P d → P' d) : FnP B f n flt ds P' := by
  obtain ⟨fa, o, fd, h1, h2, h3, h4⟩ := h
  exact ⟨fa, o, fd, h1, h2, h3, fun A hA r C s vs b ci rv hf R hR hE => h4 A hA r C s vs b ci rv hf R (fun v d C' s' p => hR v d C' s' (k d p)) hE⟩
theorem FnC.mono {B : Bs} {f : Str} {n : Nat} {flt : Bool} {ds : List D} {P P' : D → Prop} (h : FnC B f n flt ds P) (k : ∀ d, P d → P' d) : FnC B f n flt ds P' := by
  obtain ⟨fa, o, fd, h1, h2, h3, h4⟩ := h
  exact ⟨fa, o, fd, h1, h2, h3, fun A hA r C s vs b ci rv hf R hR hE => h4 A hA r C s vs b ci rv hf R (fun v d C' s' p => hR v d C' s' (k d p)) hE⟩
theorem FnS.mono {B : Bs} {f : Str} {n : Nat} {m : MO} {ds : List D} {P P' : D → MO → Prop} (h : FnS B f n m ds P) (k : ∀ d m, P d m → P' d m) : FnS B f n m ds P' := by
  obtain ⟨fa, o, fd, h1, h2, h3, h4⟩ := h
  exact ⟨fa, o, fd, h1, h2, h3, fun A hA r C s vs b bb ci rv hm hC hB R hR => h4 A hA r C s vs b bb ci rv hm hC hB R (fun v d m' C' s' p => hR v d m' C' s' (k d m' p))⟩
/-- a promise that no fault comes is one for callers that bear faults -/
theorem FnC.up {B : Bs} {f : Str} {n : Nat} {ds : List D} {P : D → Prop} (h : FnC B f n false ds P) : FnC B f n true ds P := by
  obtain ⟨fa, o, fd, h1, h2, h3, h4⟩ := h
  exact ⟨fa, o, fd, h1, h2, h3, fun A hA r C s vs b ci rv hf R hR hE => h4 A hA r C s vs b ci rv (fun h => nomatch h) R hR fun h => nomatch h⟩
theorem FnP.up {B : Bs} {f : Str} {n : Nat} {ds : List D} {P : D → Prop} (h : FnP B f n false ds P) : FnP B f n true ds P := by
  obtain ⟨fa, o, fd, h1, h2, h3, h4⟩ := h
  exact ⟨fa, o, fd, h1, h2, h3, fun A hA r C s vs b ci rv hf R hR hE => h4 A hA r C s vs b ci rv (fun h => nomatch h) R hR fun h => nomatch h⟩

theorem ite_or {b : Bool} {X Y : Prop} (h1 : b = true → Y) (h2 : b = false → X) : if b = (BoolOp.Or == BoolOp.And) then X else Y := by
  cases b with
  | true => exact h1 rfl
  | false => exact h2 rfl
theorem ite_and {b : Bool} {X Y : Prop} (h1 : b = true → X) (h2 : b = false → Y) : if b = (BoolOp.And == BoolOp.And) then X else Y := by
  cases b with
  | true => exact h1 rfl
  | false => exact h2 rfl
theorem ite_t {b : Bool} {X Y : Prop} (h : b = true) (x : X) : if b = true then X else Y := by rw [if_pos h]; exact x
theorem ite_f {b : Bool} {X Y : Prop} (h : b = false) (x : Y) : if b = true then X else Y := by subst h; exact x
theorem ite_b {b : Bool} {X Y : Prop} (h1 : b = true → X) (h2 : b = false → Y) : if b = true then X else Y := by
  cases b with
  | true => exact h1 rfl
  | false => exact h2 rfl
theorem ite_tt {X Y : Prop} (x : X) : if true = true then X else Y := x
theorem ite_ff {X Y : Prop} (x : Y) : if false = true then X else Y := x
/-! W1 -/
noncomputable def I (l : List Nat) : List Int := l.map fun (n : Nat) => (n : Int)
noncomputable def N (l : List Nat) : List D := l.map fun (n : Nat) => D.int (n : Int)
noncomputable def Oct (l : List Nat) : Prop := ∀ o ∈ l, o < 256
theorem I_len {l : List Nat} : (I l).length = l.length := List.length_map ..
theorem N_len {l : List Nat} : (N l).length = l.length := List.length_map ..
theorem I_N {l : List Nat} : (I l).map D.int = N l := by unfold I N; rw [List.map_map]; rfl
theorem I_app {l k : List Nat} : I (l ++ k) = I l ++ I k := List.map_append ..
theorem N_app {l k : List Nat} : N (l ++ k) = N l ++ N k := List.map_append ..
theorem N_tree {l : List Nat} : (N l).all D.tree = true := by rw [List.all_eq_true]; intro d h; obtain ⟨n, _, rfl⟩ := List.mem_map.mp h; rfl
theorem I_getD {l : List Nat} {k : Nat} (h : k < l.length) : (I l)[k]? = some ((l.getD k 0 : Nat) : Int) := by
  unfold I; rw [List.getElem?_map, List.getElem?_eq_getElem h, List.getElem_eq_getD 0]; rfl
theorem I_inj : ∀ {l k : List Nat}, I l = I k → l = k
  | [], [], _ => rfl
  | [], _ :: _, h => by simp [I] at h
  | _ :: _, [], h => by simp [I] at h
  | a :: l, b :: k, h => by
    unfold I at h
    rw [List.map_cons, List.map_cons, List.cons.injEq] at h
    rw [I_inj (l := l) (k := k) h.2, Int.ofNat.inj h.1]
theorem Oct.getD {l : List Nat} (h : Oct l) (k : Nat) : l.getD k 0 < 256 := by
  by_cases hk : k < l.length
  · rw [← List.getElem_eq_getD (h := hk) 0]; exact h _ (List.getElem_mem hk)
  · rw [List.getD_eq_getElem?_getD, List.getElem?_eq_none (by (exact Nat.le_of_not_lt hk))]; decide
theorem Oct.app {l k : List Nat} (h : Oct l) (h' : Oct k) : Oct (l ++ k) := fun o ho => (List.mem_append.mp ho).elim (h o) (h' o)
theorem Oct.take {l : List Nat} (h : Oct l) (n : Nat) : Oct (l.take n) := fun o ho => h o (List.mem_of_mem_take ho)
theorem Oct.drop {l : List Nat} (h : Oct l) (n : Nat) : Oct (l.drop n) := fun o ho => h o (List.mem_of_mem_drop ho)

theorem clip_nat (n k : Nat) : clipAt n (k : Int) = min k n := by
  unfold clipAt; rw [if_neg (by (exact ob74))]; (exact ob75)
theorem sl_nat {α : Type} (l : List α) (a b : Nat) : sl l (some (a : Int)) (some (b : Int)) = (l.drop a).take (b - a) := by
  unfold sl
  simp only [Option.elim, clip_nat]
  by_cases h : a ≤ l.length
  · rw [Nat.min_eq_left h]
    by_cases hb : b ≤ l.length
    · rw [Nat.min_eq_left hb]
    · rw [Nat.min_eq_right (a := b) (by (exact ob76 hb)), List.take_of_length_le (i := l.length - a) (by simp), List.take_of_length_le (by simp; (exact ob77 hb))]
  · rw [Nat.min_eq_right (a := a) (by (exact ob76 h)), List.drop_of_length_le (i := l.length) (Nat.le_refl _), List.drop_of_length_le (i := a) (by (grind))]; simp
theorem sl_to {α : Type} (l : List α) (b : Nat) : sl l none (some (b : Int)) = l.take b := by
  have := sl_nat l 0 b
  unfold sl at this ⊢
  simp [clip_nat] at this ⊢
theorem sl_from {α : Type} (l : List α) (a : Nat) : sl l (some (a : Int)) none = l.drop a := by
  unfold sl
  simp only [Option.elim, clip_nat]
  by_cases h : a ≤ l.length
  · rw [Nat.min_eq_left h, List.take_of_length_le (by simp)]
  · rw [Nat.min_eq_right (a := a) (by (grind)), List.drop_of_length_le (i := l.length) (Nat.le_refl _), List.drop_of_length_le (i := a) (by (grind))]; simp
theorem sl_I (l : List Nat) (a b : Option Int) : sl (I l) a b = I (sl l a b) := by
  unfold sl; rw [I_len]; unfold I; rw [List.map_take, List.map_drop]

noncomputable def be32 (a b c d : Nat) : Nat := a * 16777216 + b * 65536 + c * 256 + d
theorem be32_or {a b c d : Nat} (hb : b < 256) (hc : c < 256) (hd : d < 256) : a * 2 ^ 24 ||| b * 2 ^ 16 ||| c * 2 ^ 8 ||| d = be32 a b c d := by
  have e1 : a * 2 ^ 24 ||| b * 2 ^ 16 = 2 ^ 24 * a + b * 2 ^ 16 := by rw [Nat.two_pow_add_eq_or_of_lt (by (exact ob78 hb)), Nat.mul_comm]
  have e2 : 2 ^ 24 * a + b * 2 ^ 16 = 2 ^ 16 * (a * 256 + b) := by (exact ob79)
  rw [e1, e2, ← Nat.two_pow_add_eq_or_of_lt (i := 16) (b := c * 2 ^ 8) (by (exact ob80 hc))]
  have e3 : 2 ^ 16 * (a * 256 + b) + c * 2 ^ 8 = 2 ^ 8 * ((a * 256 + b) * 256 + c) := by (exact ob81)
  rw [e3, ← Nat.two_pow_add_eq_or_of_lt (i := 8) (b := d) (by omega)]
  unfold be32; (exact ob82)
noncomputable def word (l : List Nat) (i : Nat) : Nat := be32 (l.getD i 0) (l.getD (i + 1) 0) (l.getD (i + 2) 0) (l.getD (i + 3) 0)
theorem word_lt {l : List Nat} (h : Oct l) (i : Nat) : word l i < 4294967296 := by
  have := h.getD i; have := h.getD (i + 1); have := h.getD (i + 2); have := h.getD (i + 3)
  unfold word be32; (grind)

theorem fn_get32 {B : Bs} (st : Stat B) {ns : List Nat} {i : Int} {flt : Bool} (ho : Oct ns) (hz : ns.length ≤ 16777216) (hok : flt = false → 0 ≤ i ∧ i + 4 ≤ ns.length) :
    FnP B "get32" 1 flt [.bytes (I ns), .int i] (fun d => 0 ≤ i ∧ i + 4 ≤ ns.length ∧ d = .int (word ns i.toNat : Nat)) := by
  refine FnP.any (k := 10) (Δ := [("octets", .bytes (I ns)), ("at", .int i)]) (ns := ["octets", "at"]) st (by rfl) (Binds.two (by decide) fun fd v w hp h1 h2 => by obtain ⟨⟩ := fd; subst hp h1 h2; rfl) rfl (by decide +kernel) fun A L fa cd fr hfr => ?_
  have bad : ¬ (0 ≤ i ∧ i + 4 ≤ ns.length) → ∃ l, fr = some l := fun h => hfr (by cases flt with | true => rfl | false => exact absurd (hok rfl) h)
  have hl : (I ns).length = ns.length := I_len
  refine Ex.cons ?_
  refine Ex1.ife ?_
  refine EvB.bop ?_
  refine EvAll.cons ?_
  refine EvB.cmp ?_ (by rfl)
  refine Ev.name (by rfl) ?_
  refine Ev.kint ?_
  refine Op.lt ?_
  refine ⟨_, rfl, ?_⟩
  refine ite_or (fun h => ?_) fun h => ?_
  · refine ite_t h ?_
    obtain ⟨l, rfl⟩ := bad (by simp at h; (exact ob83 h))
    refine Ex.cons ?_
    refine Ex1.raise ?_ rfl
    refine Ev.kstr ?_
    trivial
  refine EvAll.cons ?_
  refine EvB.cmp ?_ (by rfl)
  refine Ev.binop ?_
  refine Ev.name (by rfl) ?_
  refine Ev.kint ?_
  refine Op.add ?_
  refine Ev.len ?_
  refine Ev.name (by rfl) ?_
  refine ⟨by first | (exact ob84 hl hz) | (simp only [List.length_cons, List.length_nil, List.length_map, List.length_append]; omega) | (simp; done) | decide, ?_⟩
  refine Op.gt ?_
  refine ⟨_, rfl, ?_⟩
  refine ite_or (fun h2 => ?_) fun h2 => ?_
  · refine ite_t h2 ?_
    obtain ⟨l, rfl⟩ := bad (by simp at h2; (exact ob85 hl h2))
    refine Ex.cons ?_
    refine Ex1.raise ?_ rfl
    refine Ev.kstr ?_
    trivial
  refine EvAll.nil ?_
  refine ite_f (by rfl) ?_
  refine Ex.nil ?_
  simp at h h2
  obtain ⟨k, rfl⟩ := Int.eq_ofNat_of_zero_le h
  have b0 := ho.getD k; have b1 := ho.getD (k + 1); have b2 := ho.getD (k + 2); have b3 := ho.getD (k + 3)
  have t1 : ((k : Int) + 1).toNat = k + 1 := by (exact Nat.sub_zero _)
  have t2 : ((k : Int) + 2).toNat = k + 2 := by (exact Nat.sub_zero _)
  have t3 : ((k : Int) + 3).toNat = k + 3 := by (exact Nat.sub_zero _)
  refine Ex.cons ?_
  refine Ex1.ret ?_
  refine Ev.binop ?_
  refine Ev.binop ?_
  refine Ev.binop ?_
  refine Ev.binop ?_
  refine Ev.item ?_
  refine Ev.name (by rfl) ?_
  refine Ev.name (by rfl) ?_
  refine ⟨_, I_getD (by (exact ob86 hl h2)), by omega, by (exact ob87 hl hz), ?_⟩
  rw [Int.toNat_natCast]
  refine Ev.kint ?_
  refine Op.shl (by (exact Int.natCast_nonneg _)) (by (exact Int.natCast_nonneg _)) (by (exact ob88 b0)) ?_
  refine Ev.binop ?_
  refine Ev.item ?_
  refine Ev.name (by rfl) ?_
  refine Ev.binop ?_
  refine Ev.name (by rfl) ?_
  refine Ev.kint ?_
  refine Op.add ?_
  refine ⟨_, I_getD (by (exact ob89 hl h2)), by (exact Int.natCast_nonneg _), by (exact ob87 hl hz), ?_⟩
  rw [t1]
  refine Ev.kint ?_
  refine Op.shl (by (exact Int.natCast_nonneg _)) (by (exact Int.natCast_nonneg _)) (by (exact ob88 b1)) ?_
  refine Op.or ?_
  refine Ev.binop ?_
  refine Ev.item ?_
  refine Ev.name (by rfl) ?_
  refine Ev.binop ?_
  refine Ev.name (by rfl) ?_
  refine Ev.kint ?_
  refine Op.add ?_
  refine ⟨_, I_getD (by (exact ob90 hl h2)), by (exact Int.natCast_nonneg _), by (exact ob87 hl hz), ?_⟩
  rw [t2]
  refine Ev.kint ?_
  refine Op.shl (by (exact Int.natCast_nonneg _)) (by (exact Int.natCast_nonneg _)) (by (exact ob88 b2)) ?_
  refine Op.or ?_
  refine Ev.item ?_
  refine Ev.name (by rfl) ?_
  refine Ev.binop ?_
  refine Ev.name (by rfl) ?_
  refine Ev.kint ?_
  refine Op.add ?_
  refine ⟨_, I_getD (by (exact ob91 hl h2)), by (exact Int.natCast_nonneg _), by (exact ob87 hl hz), ?_⟩
  rw [t3]
  refine Op.or ?_
  refine ⟨rfl, h, by (exact ob92 hl h2), ?_⟩
  congr 1
  have e := be32_or (a := ns.getD k 0) b1 b2 b3
  unfold word
  rw [← e, ← bitOr_nat, ← bitOr_nat, ← bitOr_nat]
  simp only [Int.natCast_mul]
  rfl
/-! W2 -/
/-! names known of a smaller table are known of a larger one -/
noncomputable def Sub (Δ' Δ : DE) : Prop := ∀ x d, Δ'.lookup x = some d → Δ.lookup x = some d
theorem Sub.nil {Δ : DE} : Sub [] Δ := fun x d h => by cases h
theorem Sub.refl {Δ : DE} : Sub Δ Δ := fun x d h => h
theorem Sub.cons {Δ r : DE} {x : Str} {d : D} (h : Δ.lookup x = some d) (t : Sub r Δ) : Sub ((x, d) :: r) Δ := fun y e hy => by
  rw [lookup_cons] at hy
  split at hy
  · rename_i q; subst q; cases hy; exact h
  · exact t y e hy
theorem Sub.app {Δ' Δ : DE} (h : Sub Δ' Δ) : ∀ b : DE, Sub (b ++ Δ') (b ++ Δ)
  | [] => h
  | (x, d) :: r => fun y e hy => by
    rw [List.cons_append, lookup_cons] at hy ⊢
    split at hy
    · rw [if_pos (by assumption)]; exact hy
    · rw [if_neg (by assumption)]; exact Sub.app h r y e hy
section
variable {B : Bs} {a : Act} {tg : Expr} {body : List Stmt} {Kn : DE → List MO → Prop} {Kr : D → List MO → Prop} {σ : Type}
theorem ForK.inv_from {items : List D} (F : Nat → σ → DE) (M : Nat → σ → List MO) (P : Nat → σ → Prop)
    (step : ∀ j x d, items[j]? = some d → P j x → ∃ b, BindT a tg d b ∧ ∀ r, Ex B (a.wit r) (b ++ F j x) (M j x) body (fun Δ' μ' => ∃ x', P (j + 1) x' ∧ Sub (F (j + 1) x') Δ' ∧ μ' = M (j + 1) x') Kr)
    (hn : ∀ x Δ, P items.length x → Sub (F items.length x) Δ → Kn Δ (M items.length x)) : ∀ (ds : List D) (j : Nat) (x : σ) (Δ : DE), items.drop j = ds → j ≤ items.length → P j x → Sub (F j x) Δ → ForK B a tg body Kn Kr ds Δ (M j x)
  | [], j, x, Δ, hd, hj, hp, hs => by
    have e : j = items.length := by have := congrArg List.length hd; simp at this; (exact ob93 this hj)
    subst e
    exact hn x Δ hp hs
  | d :: ds, j, x, Δ, hd, hj, hp, hs => by
    have hlt : j < items.length := by have := congrArg List.length hd; simp at this; (exact ob94 this)
    have hget : items[j]? = some d := by
      have := congrArg (·[0]?) hd
      simpa using this
    obtain ⟨b, hb, hx⟩ := step j x d hget hp
    refine ⟨b, hb, fun r => ((hx r).weak (Sub.app hs b)).mono (fun Δ' μ' h => ?_) fun _ _ k => k⟩
    obtain ⟨x', hp', hs', rfl⟩ := h
    refine ForK.inv_from F M P step hn ds (j + 1) x' Δ' ?_ hlt hp' hs'
    have : (items.drop j).drop 1 = ds := by rw [hd]; rfl
    rwa [List.drop_drop] at this
theorem ForK.inv {items : List D} {Δ : DE} {μ : List MO} (F : Nat → σ → DE) (M : Nat → σ → List MO) (P : Nat → σ → Prop) (x0 : σ) (hp : P 0 x0) (hs : Sub (F 0 x0) Δ) (hm : μ = M 0 x0)
    (step : ∀ j x d, items[j]? = some d → P j x → ∃ b, BindT a tg d b ∧ ∀ r, Ex B (a.wit r) (b ++ F j x) (M j x) body (fun Δ' μ' => ∃ x', P (j + 1) x' ∧ Sub (F (j + 1) x') Δ' ∧ μ' = M (j + 1) x') Kr)
    (hn : ∀ x Δ, P items.length x → Sub (F items.length x) Δ → Kn Δ (M items.length x)) : ForK B a tg body Kn Kr items Δ μ := by
  subst hm
  exact ForK.inv_from F M P step hn items 0 x0 Δ rfl (Nat.zero_le _) hp hs
theorem ForKC.inv_from {items : List D} (F : Nat → σ → DE) (M : Nat → σ → List MO) (P : Nat → σ → Prop)
    (step : ∀ j x d, items[j]? = some d → P j x → ∃ b, BindT a tg d b ∧ ∀ r, ExC B (a.wit r) (b ++ F j x) (M j x) body (fun Δ' μ' => ∃ x', P (j + 1) x' ∧ Sub (F (j + 1) x') Δ' ∧ μ' = M (j + 1) x') Kr)
    (hn : ∀ x Δ, P items.length x → Sub (F items.length x) Δ → Kn Δ (M items.length x)) : ∀ (ds : List D) (j : Nat) (x : σ) (Δ : DE), items.drop j = ds → j ≤ items.length → P j x → Sub (F j x) Δ → ForKC B a tg body Kn Kr ds Δ (M j x)
  | [], j, x, Δ, hd, hj, hp, hs => by
    have e : j = items.length := by have := congrArg List.length hd; simp at this; (grind)
    subst e
    exact hn x Δ hp hs
  | d :: ds, j, x, Δ, hd, hj, hp, hs => by
    have hlt : j < items.length := by have := congrArg List.length hd; simp at this; (grind)
    have hget : items[j]? = some d := by
      have := congrArg (·[0]?) hd
      simpa using this
    obtain ⟨b, hb, hx⟩ := step j x d hget hp
    refine ⟨b, hb, fun r => ((hx r).weak (Sub.app hs b)).mono (fun Δ' μ' h => ?_) fun _ _ k => k⟩
    obtain ⟨x', hp', hs', rfl⟩ := h
    refine ForKC.inv_from F M P step hn ds (j + 1) x' Δ' ?_ hlt hp' hs'
    have : (items.drop j).drop 1 = ds := by rw [hd]; rfl
    rwa [List.drop_drop] at this
theorem ForKC.inv {items : List D} {Δ : DE} {μ : List MO} (F : Nat → σ → DE) (M : Nat → σ → List MO) (P : Nat → σ → Prop) (x0 : σ) (hp : P 0 x0) (hs : Sub (F 0 x0) Δ) (hm : μ = M 0 x0)
    (step : ∀ j x d, items[j]? = some d → P j x → ∃ b, BindT a tg d b ∧ ∀ r, ExC B (a.wit r) (b ++ F j x) (M j x) body (fun Δ' μ' => ∃ x', P (j + 1) x' ∧ Sub (F (j + 1) x') Δ' ∧ μ' = M (j + 1) x') Kr)
    (hn : ∀ x Δ, P items.length x → Sub (F items.length x) Δ → Kn Δ (M items.length x)) : ForKC B a tg body Kn Kr items Δ μ := by
  subst hm
  exact ForKC.inv_from F M P step hn items 0 x0 Δ rfl (Nat.zero_le _) hp hs
end
theorem rng_get {n j : Nat} {d : D} (h : (rng 0 1 n)[j]? = some d) : j < n ∧ d = .int (j : Nat) := by
  unfold rng at h
  rw [List.getElem?_map] at h
  by_cases hj : j < n
  · rw [List.getElem?_range hj] at h; cases h; exact ⟨hj, by simp⟩
  · rw [List.getElem?_eq_none (by simpa using hj)] at h; cases h
theorem rng_len {a c : Int} {n : Nat} : (rng a c n).length = n := by unfold rng; simp
theorem N_get {l : List Nat} {j : Nat} {d : D} (h : (N l)[j]? = some d) : ∃ n, l[j]? = some n ∧ d = .int (n : Nat) := by
  unfold N at h
  rw [List.getElem?_map] at h
  cases e : l[j]? with
  | none => rw [e] at h; cases h
  | some n => rw [e] at h; cases h; exact ⟨n, rfl, rfl⟩
theorem N_of {l : List Nat} {j n : Nat} (h : l[j]? = some n) : (N l)[j]? = some (.int (n : Nat)) := by unfold N; rw [List.getElem?_map, h]; rfl
theorem pyGet_nat {α : Type} {l : List α} {k : Nat} : pyGet l (k : Int) = l[k]? := by unfold pyGet; rw [if_pos (Int.natCast_nonneg _), Int.toNat_natCast]

noncomputable def tab16 : List Nat := (List.range 16).map cstep4
noncomputable def csteps (x : Nat) : Nat → Nat
  | 0 => x
  | j + 1 => cstep (csteps x j)
theorem fn_crc_steps {B : Bs} (st : Stat B) {flt : Bool} : FnP B "crc_steps" 1 flt [] (fun d => d = .list (N tab16)) := by
  have fx11 : (fx 11).1 = (fx 11).1 := rfl
  refine FnP.any (k := 11) (Δ := []) (ns := []) st (by rfl) (fun fd hp h1 h2 C ρ s vs b ci r => ?_) rfl (by decide +kernel) fun A L fa cd fr hfr => ?_
  · match vs, r with
    | [], _ => exact ⟨[], BindsTo.of_eq (by obtain ⟨⟩ := fd; cases hp; cases h1; cases (show _ = Value.none from h2); rfl), trivial⟩
  refine Ex.cons ?_
  refine Ex1.assign (Ev.listM (EvL.nil ⟨rfl, by decide, ?_⟩)) (.inl (by rfl))
  refine Ex.cons ?_
  refine Ex1.for_ (EvIter.range (Ev.kint ⟨16, rfl, by decide, by decide, ?_⟩))
  refine ForK.inv (σ := Unit) (fun j _ => [("found", .obj 0)]) (fun j _ => [.list (N ((List.range j).map cstep4))]) (fun _ _ => True) () trivial (.cons (by rfl) .nil) rfl (fun j _ d hj _ => ?_) fun _ Δ _ hs => ?_
  · obtain ⟨hj, rfl⟩ := rng_get hj
    refine ⟨_, .name _ _ _ (.inl (by rfl)), fun r => ?_⟩
    refine Ex.cons ?_
    refine Ex1.assign ?_ (.inl (by rfl))
    refine Ev.name (by rfl) ?_
    refine Ex.cons ?_
    refine Ex1.for_ (EvIter.range (Ev.kint ⟨4, rfl, by decide, by decide, ?_⟩))
    refine ForK.inv (σ := Unit) (fun i _ => [("crc", .int (csteps j i : Nat)), ("found", .obj 0)]) (fun i _ => [.list (N ((List.range j).map cstep4))]) (fun _ _ => True) () trivial (.cons (by rfl) (.cons (by rfl) .nil)) rfl (fun i _ d hi _ => ?_) fun _ Δ _ hs => ?_
    · obtain ⟨hi, rfl⟩ := rng_get hi
      refine ⟨_, .name _ _ _ (.inl (by rfl)), fun r => ?_⟩
      refine Ex.cons ?_
      refine Ex1.assign ?_ (.inl (by rfl))
      refine Ev.ifexp ?_
      refine EvB.plain ?_
      refine Ev.binop ?_
      refine Ev.name (by rfl) ?_
      refine Ev.kint ?_
      refine Op.and ?_
      refine ⟨_, rfl, ?_⟩
      have e1 : Builtin.bitAnd ((csteps j i : Nat) : Int) 1 = ((csteps j i % 2 : Nat) : Int) := by rw [← Nat.and_one_is_mod]; exact bitAnd_nat _ 1
      have e2 : ((csteps j i : Nat) : Int) / 2 ^ Int.toNat 1 = ((csteps j i / 2 : Nat) : Int) := by simp
      rw [e1]
      refine ite_bne (fun h => ?_) fun h => ?_
      · refine Ev.binop ?_
        refine Ev.binop ?_
        refine Ev.name (by rfl) ?_
        refine Ev.kint ?_
        refine Op.shr (by (exact Int.natCast_nonneg _)) ?_
        refine Ev.kint ?_
        refine Op.xor ?_
        refine Ex.nil ⟨(), trivial, .cons ?_ (.cons (by rfl) .nil), rfl⟩
        show some _ = some _
        have : csteps j i % 2 = 1 := by (exact ob95 h)
        rw [e2, show (3988292384 : Int) = ((3988292384 : Nat) : Int) from rfl, bitXor_nat]
        simp only [csteps, cstep, this, if_true, crcP]
      · refine Ev.binop ?_
        refine Ev.name (by rfl) ?_
        refine Ev.kint ?_
        refine Op.shr (by (exact Int.natCast_nonneg _)) ?_
        refine Ex.nil ⟨(), trivial, .cons ?_ (.cons (by rfl) .nil), rfl⟩
        show some _ = some _
        have : ¬ csteps j i % 2 = 1 := by (exact ob96 h)
        rw [e2]
        simp only [csteps, cstep, this, if_false, Nat.xor_zero]
    · rw [rng_len] at hs
      refine Ex.weak ?_ hs
      refine Ex.cons ?_
      refine Ex1.expr (Ev.append ?_)
      refine Ev.name (by rfl) ?_
      refine ⟨0, _, rfl, rfl, ?_⟩
      refine Ev.name (by rfl) ?_
      refine ⟨_, rfl, rfl, by rw [N_len]; simp; (grind), ?_⟩
      refine Ex.nil ⟨(), trivial, .cons (by rfl) .nil, ?_⟩
      show [MO.list _] = [MO.list _]
      rw [List.range_succ, List.map_append, N_app]
      rfl
  · rw [rng_len]
    refine Ex.weak ?_ hs
    refine Ex.cons ?_
    refine Ex1.ret (Ev.freeze (by rfl) (by rfl) ⟨rfl, rfl⟩)
/-! W3 -/
noncomputable def lowN (l : List Nat) : Nat → Nat := fun i => l.foldl (fun x o => (x + o) % 65521) i
noncomputable def adl (l : List Nat) : Nat × Nat := l.foldl (fun p o => ((p.1 + o) % 65521, (p.2 + (p.1 + o) % 65521) % 65521)) (1, 0)
theorem adl_lt : ∀ (l : List Nat), (adl l).1 < 65521 ∧ (adl l).2 < 65521 := by
  have : ∀ (l : List Nat) (p : Nat × Nat), p.1 < 65521 ∧ p.2 < 65521 → (l.foldl (fun p o => ((p.1 + o) % 65521, (p.2 + (p.1 + o) % 65521) % 65521)) p).1 < 65521 ∧ (l.foldl (fun p o => ((p.1 + o) % 65521, (p.2 + (p.1 + o) % 65521) % 65521)) p).2 < 65521 := by
    intro l
    induction l with
    | nil => intro p h; exact h
    | cons o l ih => intro p h; exact ih _ ⟨Nat.mod_lt _ (by decide), Nat.mod_lt _ (by decide)⟩
  exact fun l => this l _ (by decide)
theorem take_fold {α β : Type} (f : β → α → β) (i : β) {l : List α} {j : Nat} {x : α} (h : l[j]? = some x) : (l.take (j + 1)).foldl f i = f ((l.take j).foldl f i) x := by
  rw [List.take_add_one, h, List.foldl_append]; rfl

theorem nib (x : Nat) : tab16.getD (x % 16) 0 ^^^ (x / 16) = cstep4 x := by
  rw [cstep4_nib x]
  unfold tab16
  rw [List.getD_eq_getElem?_getD, List.getElem?_map, List.getElem?_range (Nat.mod_lt _ (by decide))]
  rfl
theorem and15 (x : Nat) : Builtin.bitAnd ((x : Nat) : Int) 15 = ((x % 16 : Nat) : Int) := by
  rw [show (15 : Int) = ((15 : Nat) : Int) from rfl, bitAnd_nat]
  congr 1
  exact Nat.and_two_pow_sub_one_eq_mod x 4
theorem tab_get (x : Nat) : pyGet (N tab16) ((x % 16 : Nat) : Int) = some (.int (tab16.getD (x % 16) 0 : Nat)) := by
  rw [pyGet_nat]
  refine N_of ?_
  have : x % 16 < tab16.length := by show _ < 16; (exact ob97)
  rw [List.getElem?_eq_getElem this, List.getElem_eq_getD 0]

theorem fn_crc32 {B : Bs} (st : Stat B) {ns : List Nat} {flt : Bool} : FnP B "crc32" 3 flt [.bytes (I ns)] (fun d => d = .int (crcN ns : Nat)) := by
  refine FnP.any (k := 12) (Δ := [("octets", .bytes (I ns)), ("crc", .int 0)]) (ns := ["octets", "crc"]) st (by rfl) (Binds.dflt (.inl rfl) rfl fun fd v hp h1 => ?_) rfl (by decide +kernel) fun A L fa cd fr hfr => ?_
  · obtain ⟨⟩ := fd; cases hp; cases h1; exact ⟨_, rfl, fun t => rfl⟩
  refine Ex.cons ?_
  refine Ex1.assign (Ev.call0 (n := 1) (k := 11) ((fn_crc_steps st (flt := false)).mono fun d hd => ?_) (hn := Nat.le_refl 2)) (.inl (by rfl))
  subst hd
  refine Ex.cons ?_
  refine Ex1.assign ?_ (.inl (by rfl))
  refine Ev.binop ?_
  refine Ev.name (by rfl) ?_
  refine Ev.kint ?_
  refine Op.xor ?_
  refine Ex.cons ?_
  refine Ex1.for_ (EvIter.data ?_)
  refine Ev.name (by rfl) ?_
  refine ⟨_, rfl, ?_⟩
  rw [I_N]
  refine ForK.inv (σ := Unit) (fun j _ => [("crc", .int ((ns.take j).foldl crcOct 4294967295 : Nat)), ("steps", .list (N tab16))]) (fun j _ => []) (fun _ _ => True) () trivial (.cons (by rfl) (.cons (by rfl) .nil)) rfl (fun j _ d hj _ => ?_) fun _ Δ _ hs => ?_
  · obtain ⟨n, hn, rfl⟩ := N_get hj
    refine ⟨_, .name _ _ _ (.inl (by rfl)), fun r => ?_⟩
    generalize hx : (ns.take j).foldl crcOct 4294967295 = x
    have hx' : (ns.take (j + 1)).foldl crcOct 4294967295 = crcOct x n := by rw [take_fold _ _ hn, hx]
    refine Ex.cons ?_
    refine Ex1.assign ?_ (.inl (by rfl))
    refine Ev.binop ?_
    refine Ev.name (by rfl) ?_
    refine Ev.name (by rfl) ?_
    refine Op.xor ?_
    refine Ex.cons ?_
    refine Ex1.assign ?_ (.inl (by rfl))
    refine Ev.binop ?_
    refine Ev.item ?_
    refine Ev.name (by rfl) ?_
    refine Ev.binop ?_
    refine Ev.name (by rfl) ?_
    refine Ev.kint ?_
    refine Op.and ?_
    rw [bitXor_nat]
    rw [and15]
    refine ⟨_, tab_get _, by decide, ?_⟩
    refine Ev.binop ?_
    refine Ev.name (by rfl) ?_
    refine Ev.kint ?_
    refine Op.shr (by (exact Int.natCast_nonneg _)) ?_
    refine Op.xor ?_
    refine Ex.cons ?_
    refine Ex1.assign ?_ (.inl (by rfl))
    refine Ev.binop ?_
    refine Ev.item ?_
    refine Ev.name (by rfl) ?_
    refine Ev.binop ?_
    refine Ev.name (by rfl) ?_
    refine Ev.kint ?_
    refine Op.and ?_
    rw [show (((x ^^^ n : Nat) : Int) / 2 ^ Int.toNat 4) = (((x ^^^ n) / 16 : Nat) : Int) by simp, bitXor_nat, nib]
    rw [and15]
    refine ⟨_, tab_get _, by decide, ?_⟩
    refine Ev.binop ?_
    refine Ev.name (by rfl) ?_
    refine Ev.kint ?_
    refine Op.shr (by (exact Int.natCast_nonneg _)) ?_
    refine Op.xor ?_
    rw [show (((cstep4 (x ^^^ n) : Nat) : Int) / 2 ^ Int.toNat 4) = (((cstep4 (x ^^^ n)) / 16 : Nat) : Int) by simp, bitXor_nat, nib]
    refine Ex.nil ⟨(), trivial, .cons ?_ (.cons (by rfl) .nil), rfl⟩
    rw [hx']
    rfl
  · refine Ex.weak ?_ hs
    rw [N_len, List.take_length]
    refine Ex.cons ?_
    refine Ex1.ret ?_
    refine Ev.binop ?_
    refine Ev.name (by rfl) ?_
    refine Ev.kint ?_
    refine Op.xor ?_
    refine ⟨rfl, ?_⟩
    rw [show (4294967295 : Int) = ((4294967295 : Nat) : Int) from rfl, bitXor_nat]
    rfl
/-! W4 -/
theorem adl_step {l : List Nat} {j o : Nat} (h : l[j]? = some o) : adl (l.take (j + 1)) = (((adl (l.take j)).1 + o) % 65521, ((adl (l.take j)).2 + ((adl (l.take j)).1 + o) % 65521) % 65521) := take_fold _ _ h
theorem fn_adler32 {B : Bs} (st : Stat B) {ns : List Nat} {flt : Bool} : FnP B "adler32" 1 flt [.barr (I ns)] (fun d => d = .int ((adl ns).2 * 65536 + (adl ns).1 : Nat)) := by
  refine FnP.any (k := 13) (Δ := [("octets", .barr (I ns)), ("begin", .int 1)]) (ns := ["octets", "begin"]) st (by rfl) (Binds.dflt (.inr rfl) rfl fun fd v hp h1 => ?_) rfl (by decide +kernel) fun A L fa cd fr hfr => ?_
  · obtain ⟨⟩ := fd; cases hp; cases h1; exact ⟨_, rfl, fun t => rfl⟩
  refine Ex.cons ?_
  refine Ex1.asgTup (names := ["low", "high"]) ?_ (by rfl) (by intro x hx; simp at hx; rcases hx with rfl | rfl <;> exact .inl (by rfl)) (by decide)
  refine EvL.cons ?_
  refine Ev.binop ?_
  refine Ev.name (by rfl) ?_
  refine Ev.kint ?_
  refine Op.and ?_
  refine EvL.cons ?_
  refine Ev.binop ?_
  refine Ev.name (by rfl) ?_
  refine Ev.kint ?_
  refine Op.shr (by (exact Int.natCast_nonneg _)) ?_
  refine EvL.nil ?_
  refine ⟨rfl, ?_⟩
  refine Ex.cons ?_
  refine Ex1.for_ (EvIter.barr ?_)
  refine Ev.name (by rfl) ?_
  refine ⟨_, rfl, ?_⟩
  rw [I_N]
  refine ForK.inv (σ := Unit) (fun j _ => [("low", .int ((adl (ns.take j)).1 : Nat)), ("high", .int ((adl (ns.take j)).2 : Nat))]) (fun j _ => []) (fun _ _ => True) () trivial (.cons (by rfl) (.cons (by rfl) .nil)) rfl (fun j _ d hj _ => ?_) fun _ Δ _ hs => ?_
  · obtain ⟨n, hn, rfl⟩ := N_get hj
    refine ⟨_, .name _ _ _ (.inl (by rfl)), fun r => ?_⟩
    rw [adl_step hn]
    generalize adl (ns.take j) = p
    refine Ex.cons ?_
    refine Ex1.assign (Ev.binop ?_) (.inl (by rfl))
    refine Ev.binop ?_
    refine Ev.name (by rfl) ?_
    refine Ev.name (by rfl) ?_
    refine Op.add ?_
    refine Ev.gint (by rfl) ?_
    refine Op.mod (by (exact Int.natCast_nonneg _)) ?_
    refine Ex.cons ?_
    refine Ex1.assign ?_ (.inl (by rfl))
    refine Ev.binop ?_
    refine Ev.binop ?_
    refine Ev.name (by rfl) ?_
    refine Ev.name (by rfl) ?_
    refine Op.add ?_
    refine Ev.gint (by rfl) ?_
    refine Op.mod (by (grind)) ?_
    refine Ex.nil ⟨(), trivial, .cons ?_ (.cons ?_ .nil), rfl⟩
    · show some _ = some _; congr 1
    · show some _ = some _; congr 1
  · refine Ex.weak ?_ hs
    rw [N_len, List.take_length]
    have h := adl_lt ns
    refine Ex.cons ?_
    refine Ex1.ret ?_
    refine Ev.binop ?_
    refine Ev.binop ?_
    refine Ev.name (by rfl) ?_
    refine Ev.kint ?_
    refine Op.shl (by (grind)) (by (exact Int.natCast_nonneg _)) (by (exact ob98 h)) ?_
    refine Ev.name (by rfl) ?_
    refine Op.or ?_
    refine ⟨rfl, ?_⟩
    have e := bitOr_nat ((adl ns).2 * 2 ^ 16) (adl ns).1
    rw [Int.natCast_mul] at e
    refine congrArg D.int (Eq.trans e ?_)
    rw [Nat.mul_comm, ← Nat.two_pow_add_eq_or_of_lt (by (exact ob99 h))]
    first | done | omega

theorem fn_guess0 {B : Bs} (st : Stat B) {l a c : Int} {flt : Bool} : FnP B "guess" 1 flt [.int 0, .int l, .int a, .int c] (fun d => d = .int 0) := by
  refine FnP.any (k := 6) (Δ := [("kind", .int 0), ("left", .int l), ("above", .int a), ("corner", .int c)]) (ns := ["kind", "left", "above", "corner"]) st (by rfl) (Binds.four (by decide) fun fd u v w t hp h1 h2 => by obtain ⟨⟩ := fd; subst hp h1 h2; rfl) rfl (by decide +kernel) fun A L fa cd fr hfr => ?_
  refine Ex.cons ?_
  refine Ex1.ife ?_
  refine EvB.cmp ?_ (by rfl)
  refine Ev.name (by rfl) ?_
  refine Ev.gint (by rfl) ?_
  refine Op.eq ?_
  refine ⟨_, rfl, ?_⟩
  refine ite_t rfl ?_
  refine Ex.cons ?_
  refine Ex1.ret ?_
  refine Ev.kint ?_
  exact ⟨rfl, rfl⟩
theorem fn_guess5 {B : Bs} (st : Stat B) {l a c : Int} : FnP B "guess" 1 true [.int 5, .int l, .int a, .int c] (fun d => False) := by
  refine FnP.any (k := 6) (Δ := [("kind", .int 5), ("left", .int l), ("above", .int a), ("corner", .int c)]) (ns := ["kind", "left", "above", "corner"]) st (by rfl) (Binds.four (by decide) fun fd u v w t hp h1 h2 => by obtain ⟨⟩ := fd; subst hp h1 h2; rfl) rfl (by decide +kernel) fun A L fa cd fr hfr => ?_
  obtain ⟨fl, rfl⟩ := hfr rfl
  refine Ex.cons ?_
  refine Ex1.ife ?_
  refine EvB.cmp ?_ (by rfl)
  refine Ev.name (by rfl) ?_
  refine Ev.gint (by rfl) ?_
  refine Op.eq ?_
  refine ⟨_, rfl, ?_⟩
  refine ite_f rfl ?_
  refine Ex.nil ?_
  refine Ex.cons ?_
  refine Ex1.ife ?_
  refine EvB.cmp ?_ (by rfl)
  refine Ev.name (by rfl) ?_
  refine Ev.gint (by rfl) ?_
  refine Op.eq ?_
  refine ⟨_, rfl, ?_⟩
  refine ite_f rfl ?_
  refine Ex.nil ?_
  refine Ex.cons ?_
  refine Ex1.ife ?_
  refine EvB.cmp ?_ (by rfl)
  refine Ev.name (by rfl) ?_
  refine Ev.gint (by rfl) ?_
  refine Op.eq ?_
  refine ⟨_, rfl, ?_⟩
  refine ite_f rfl ?_
  refine Ex.nil ?_
  refine Ex.cons ?_
  refine Ex1.ife ?_
  refine EvB.cmp ?_ (by rfl)
  refine Ev.name (by rfl) ?_
  refine Ev.gint (by rfl) ?_
  refine Op.eq ?_
  refine ⟨_, rfl, ?_⟩
  refine ite_f rfl ?_
  refine Ex.nil ?_
  refine Ex.cons ?_
  refine Ex1.ife ?_
  refine EvB.cmp ?_ (by rfl)
  refine Ev.name (by rfl) ?_
  refine Ev.gint (by rfl) ?_
  refine Op.eq ?_
  refine ⟨_, rfl, ?_⟩
  refine ite_f rfl ?_
  refine Ex.nil ?_
  refine Ex.cons ?_
  refine Ex1.raise ?_ rfl
  refine Ev.binop ?_
  refine Ev.kstr ?_
  refine Ev.toStr ?_
  refine Ev.name (by rfl) ?_
  refine ⟨_, rfl, ?_⟩
  refine ⟨by decide, ?_⟩
  refine Op.adds (by decide) trivial

theorem or8 {a b : Nat} (h : a < 256) : Builtin.bitOr (a : Int) ((b : Int) * 2 ^ Int.toNat 8) = ((a + 256 * b : Nat) : Int) := by
  have e := bitOr_nat a (b * 2 ^ 8)
  rw [Int.natCast_mul] at e
  refine Eq.trans e ?_
  rw [Nat.or_comm, Nat.mul_comm b, ← Nat.two_pow_add_eq_or_of_lt (by omega)]
  (exact ob100)
theorem fn_block_size {B : Bs} (st : Stat B) {ns : List Nat} {lo hi : Nat} {flt : Bool} (hz : ns.length ≤ 16777216) (hlo : lo < 256) (hhi : hi < 256) (hlen : 7 + (lo + 256 * hi) ≤ ns.length)
    (h2 : ns.getD 2 0 = 1) (h3 : ns.getD 3 0 = lo) (h4 : ns.getD 4 0 = hi) (h5 : ns.getD 5 0 = 255 - lo) (h6 : ns.getD 6 0 = 255 - hi) :
    FnP B "block_size" 1 flt [.bytes (I ns), .int 2] (fun d => d = .int (lo + 256 * hi : Nat)) := by
  refine FnP.any (k := 14) (Δ := [("octets", .bytes (I ns)), ("at", .int 2)]) (ns := ["octets", "at"]) st (by rfl) (Binds.two (by decide) fun fd v w hp h1 h2 => by obtain ⟨⟩ := fd; subst hp h1 h2; rfl) rfl (by decide +kernel) fun A L fa cd fr hfr => ?_
  have hl : (I ns).length = ns.length := I_len
  refine Ex.cons ?_
  refine Ex1.ife ?_
  refine EvB.cmp ?_ (by rfl)
  refine Ev.binop ?_
  refine Ev.name (by rfl) ?_
  refine Ev.kint ?_
  refine Op.add ?_
  refine Ev.len ?_
  refine Ev.name (by rfl) ?_
  refine ⟨by first | (exact ob84 hl hz) | (simp only [List.length_cons, List.length_nil, List.length_map, List.length_append]; omega) | (simp; done) | decide, ?_⟩
  refine Op.gt ?_
  refine ⟨_, rfl, ?_⟩
  refine ite_f (by simp; (exact ob101 hl hlen)) (Ex.nil ?_)
  refine Ex.cons ?_
  refine Ex1.ife ?_
  refine EvB.cmp ?_ (by rfl)
  refine Ev.binop ?_
  refine Ev.item ?_
  refine Ev.name (by rfl) ?_
  refine Ev.name (by rfl) ?_
  refine ⟨_, I_getD (k := 2) (by (exact ob102 hlen)), by decide, by (exact ob87 hl hz), ?_⟩
  rw [h2]
  refine Ev.kint ?_
  refine Op.shr (by (exact Int.natCast_nonneg _)) ?_
  refine Ev.kint ?_
  refine Op.ne ?_
  refine ⟨_, rfl, ?_⟩
  refine ite_f (by decide) (Ex.nil ?_)
  refine Ex.cons ?_
  refine Ex1.assign ?_ (.inl (by rfl))
  refine Ev.binop ?_
  refine Ev.item ?_
  refine Ev.name (by rfl) ?_
  refine Ev.binop ?_
  refine Ev.name (by rfl) ?_
  refine Ev.kint ?_
  refine Op.add ?_
  refine ⟨_, I_getD (k := 3) (by (exact ob103 hlen)), by decide, by (exact ob87 hl hz), ?_⟩
  rw [h3]
  refine Ev.binop ?_
  refine Ev.item ?_
  refine Ev.name (by rfl) ?_
  refine Ev.binop ?_
  refine Ev.name (by rfl) ?_
  refine Ev.kint ?_
  refine Op.add ?_
  refine ⟨_, I_getD (k := 4) (by (exact ob104 hlen)), by decide, by (exact ob87 hl hz), ?_⟩
  rw [h4]
  refine Ev.kint ?_
  refine Op.shl (by (exact Int.natCast_nonneg _)) (by (exact Int.natCast_nonneg _)) (by (exact ob88 hhi)) ?_
  refine Op.or ?_
  refine Ex.cons ?_
  refine Ex1.ife ?_
  refine EvB.bop ?_
  refine EvAll.cons ?_
  refine EvB.cmp ?_ (by rfl)
  refine Ev.binop ?_
  refine Ev.item ?_
  refine Ev.name (by rfl) ?_
  refine Ev.binop ?_
  refine Ev.name (by rfl) ?_
  refine Ev.kint ?_
  refine Op.add ?_
  rw [or8 hlo]
  refine ⟨_, I_getD (k := 5) (by (exact ob105 hlen)), by decide, by (exact ob87 hl hz), ?_⟩
  rw [h5]
  refine Ev.binop ?_
  refine Ev.item ?_
  refine Ev.name (by rfl) ?_
  refine Ev.binop ?_
  refine Ev.name (by rfl) ?_
  refine Ev.kint ?_
  refine Op.add ?_
  refine ⟨_, I_getD (k := 6) (by (exact ob106 hlen)), by decide, by (exact ob87 hl hz), ?_⟩
  rw [h6]
  refine Ev.kint ?_
  refine Op.shl (by (exact Int.natCast_nonneg _)) (by (exact Int.natCast_nonneg _)) (by (exact ob107)) ?_
  refine Op.or ?_
  refine Ev.binop ?_
  refine Ev.kint ?_
  refine Ev.name (by rfl) ?_
  refine Op.sub ?_
  refine Op.ne ?_
  refine ⟨_, rfl, ?_⟩
  rw [or8 (by (exact ob108))]
  refine ite_or (fun h => ?_) fun h => ?_
  · simp at h; (exact (ob109 h hlo hhi).elim)
  refine EvAll.cons ?_
  refine EvB.cmp ?_ (by rfl)
  refine Ev.binop ?_
  refine Ev.binop ?_
  refine Ev.name (by rfl) ?_
  refine Ev.kint ?_
  refine Op.add ?_
  refine Ev.name (by rfl) ?_
  refine Op.add ?_
  refine Ev.len ?_
  refine Ev.name (by rfl) ?_
  refine ⟨by first | (exact ob84 hl hz) | (simp only [List.length_cons, List.length_nil, List.length_map, List.length_append]; omega) | (simp; done) | decide, ?_⟩
  refine Op.gt ?_
  refine ⟨_, rfl, ?_⟩
  refine ite_or (fun h => ?_) fun h => ?_
  · simp at h; (exact (ob110 h hl hlen).elim)
  refine EvAll.nil ?_
  refine ite_f (by rfl) (Ex.nil ?_)
  refine Ex.cons ?_
  refine Ex1.ret ?_
  refine Ev.name (by rfl) ?_
  exact ⟨rfl, rfl⟩
/-! W5 -/
/-! comprehensions by invariants -/
noncomputable def Agree (nms : List Str) (Δin Δ : DE) : Prop := ∀ y, y ∉ nms → Δ.lookup y = Δin.lookup y
theorem Agree.refl {nms : List Str} {Δ : DE} : Agree nms Δ Δ := fun _ _ => rfl
theorem look_app {Δ Δ' : DE} {y : Str} : ∀ {b : DE}, y ∉ b.map (·.1) → (b ++ Δ).lookup y = Δ.lookup y
  | [], _ => rfl
  | (x, d) :: r, h => by
    rw [List.map_cons, List.mem_cons, not_or] at h
    rw [List.cons_append, lookup_cons, if_neg h.1]
    exact look_app (Δ' := Δ') h.2
theorem look_in {Δ Δ' : DE} {y : Str} : ∀ {b : DE}, y ∈ b.map (·.1) → (b ++ Δ).lookup y = (b ++ Δ').lookup y
  | (x, d) :: r, h => by
    rw [List.cons_append, List.cons_append, lookup_cons, lookup_cons]
    by_cases e : y = x
    · rw [if_pos e, if_pos e]
    · rw [if_neg e, if_neg e]
      rw [List.map_cons, List.mem_cons] at h
      exact look_in (h.resolve_left e)
theorem Agree.app {nms : List Str} {Δin Δ b : DE} (h : Agree nms Δin Δ) (e : ∀ y ∈ nms, y ∈ b.map (·.1)) (y : Str) : (b ++ Δin).lookup y = (b ++ Δ).lookup y := by
  by_cases hy : y ∈ b.map (·.1)
  · exact look_in hy
  · rw [look_app (Δ' := Δ) hy, look_app (Δ' := Δ) hy]; exact (h y fun q => hy (e y q)).symm
theorem Agree.next {nms : List Str} {Δin Δ b : DE} (h : Agree nms Δin Δ) (e : ∀ y ∈ b.map (·.1), y ∈ nms) : Agree nms Δin (b ++ Δ) := fun y hy => by
  rw [look_app (Δ' := Δ) fun q => hy (e y q)]; exact h y hy
section
variable {B : Bs} {a : Act} {Δ Δ' : DE} {μ : List MO} {K : D → List MO → Prop}
theorem Ev.eqv {e : Expr} (q : ∀ y, Δ'.lookup y = Δ.lookup y) (h : Ev B a Δ' μ e K) : Ev B a Δ μ e K := fun ok C ρ s S Q E hQ hE =>
  h ok C ρ s (S.weak fun x d e => by rw [← q]; exact e) Q E (fun v d C' ρ' μ' s' k c p S' r => hQ v d C' ρ' μ' s' k c p (S'.weak fun x d e => by rw [q]; exact e) r) hE
theorem EvB.eqv {e : Expr} {KB : Bool → List MO → Prop} (q : ∀ y, Δ'.lookup y = Δ.lookup y) (h : EvB B a Δ' μ e KB) : EvB B a Δ μ e KB := fun ok C ρ s S Q E hQ hE =>
  h ok C ρ s (S.weak fun x d e => by rw [← q]; exact e) Q E (fun b C' ρ' μ' s' k c p S' => hQ b C' ρ' μ' s' k c p (S'.weak fun x d e => by rw [q]; exact e)) hE
theorem EvB.mono {e : Expr} {KB KB' : Bool → List MO → Prop} (h : EvB B a Δ μ e KB) (k : ∀ b μ, KB b μ → KB' b μ) : EvB B a Δ μ e KB' := fun ok C ρ s S Q E hQ hE =>
  h ok C ρ s S Q E (fun b C' ρ' μ' s' k1 => hQ b C' ρ' μ' s' (k b μ' k1)) hE
theorem EvIter.eqv {tg e : Expr} {K : List D → List MO → Prop} (q : ∀ y, Δ'.lookup y = Δ.lookup y) (h : EvIter B a Δ' μ tg e K) : EvIter B a Δ μ tg e K := fun ok C ρ s S Q E hQ hE =>
  h ok C ρ s (S.weak fun x d e => by rw [← q]; exact e) Q E (fun it os items C' ρ' μ' s' k c p S' => hQ it os items C' ρ' μ' s' k c p (S'.weak fun x d e => by rw [q]; exact e)) hE
theorem EvIter.mono {tg e : Expr} {K K' : List D → List MO → Prop} (h : EvIter B a Δ μ tg e K) (k : ∀ b μ, K b μ → K' b μ) : EvIter B a Δ μ tg e K' := fun ok C ρ s S Q E hQ hE =>
  h ok C ρ s S Q E (fun it os items C' ρ' μ' s' k1 => hQ it os items C' ρ' μ' s' (k _ _ k1)) hE
theorem TestK.eqv {KB : Bool → List MO → Prop} (q : ∀ y, Δ'.lookup y = Δ.lookup y) : ∀ {ifs : List Expr}, TestK B a Δ' μ ifs KB → TestK B a Δ μ ifs KB
  | [], h => h
  | [t], h => EvB.eqv q h
  | _ :: _ :: _, h => h
theorem TestK.mono {KB KB' : Bool → List MO → Prop} (k : ∀ b μ, KB b μ → KB' b μ) : ∀ {ifs : List Expr}, TestK B a Δ μ ifs KB → TestK B a Δ μ ifs KB'
  | [], h => k _ _ h
  | [t], h => EvB.mono h k
  | _ :: _ :: _, h => h
end
section
variable {B : Bs} {a : Act} {tg elt : Expr} {ifs : List Expr} {K : DE → List MO → List D → Prop} {σ : Type} {Δin : DE}
theorem LastK.inv_from {items : List D} (nms : List Str) (M : Nat → σ → List MO) (P : Nat → σ → Prop) (O : Nat → σ → List D)
    (hO : ∀ j x, j < items.length → P j x → (O j x).length ≤ 16777216)
    (step : ∀ j x d, items[j]? = some d → P j x → ∃ b, BindT a tg d b ∧ b.map (·.1) = nms ∧ ∀ r, TestK B (a.wit r) (b ++ Δin) (M j x) ifs fun ok μ1 =>
      if ok then Ev B (a.wit r) (b ++ Δin) μ1 elt fun d' μ2 => d'.tree = true ∧ ∃ x', P (j + 1) x' ∧ μ2 = M (j + 1) x' ∧ O (j + 1) x' = O j x ++ [d']
      else ∃ x', P (j + 1) x' ∧ μ1 = M (j + 1) x' ∧ O (j + 1) x' = O j x)
    (hn : ∀ x Δ, P items.length x → Agree nms Δin Δ → K Δ (M items.length x) (O items.length x)) :
    ∀ (ds : List D) (j : Nat) (x : σ) (Δ : DE), items.drop j = ds → j ≤ items.length → P j x → Agree nms Δin Δ → LastK B a elt tg ifs K ds Δ (M j x) (O j x)
  | [], j, x, Δ, hd, hj, hp, hs => by
    have e : j = items.length := by have := congrArg List.length hd; simp at this; (exact ob93 this hj)
    subst e
    exact hn x Δ hp hs
  | d :: ds, j, x, Δ, hd, hj, hp, hs => by
    have hlt : j < items.length := by have := congrArg List.length hd; simp at this; (exact ob94 this)
    have hget : items[j]? = some d := by
      have := congrArg (·[0]?) hd
      simpa using this
    have hd' : items.drop (j + 1) = ds := by
      have : (items.drop j).drop 1 = ds := by rw [hd]; rfl
      rwa [List.drop_drop] at this
    obtain ⟨b, hb, hnm, hx⟩ := step j x d hget hp
    refine ⟨b, hb, fun r => ?_⟩
    refine TestK.mono (fun ok μ1 h => ?_) (TestK.eqv (hs.app fun y hy => by rw [hnm]; exact hy) (hx r))
    have hs' : Agree nms Δin (b ++ Δ) := hs.next fun y hy => by rw [hnm] at hy; exact hy
    cases ok with
    | true =>
      refine (Ev.eqv (hs.app fun y hy => by rw [hnm]; exact hy) h).mono fun d' μ2 h2 => ?_
      obtain ⟨ht, x', hp', rfl, hO'⟩ := h2
      exact ⟨ht, hO j x hlt hp, by rw [← hO']; exact LastK.inv_from nms M P O hO step hn ds (j + 1) x' _ hd' hlt hp' hs'⟩
    | false =>
      obtain ⟨x', hp', rfl, hO'⟩ := h
      show LastK B a elt tg ifs K ds (b ++ Δ) (M (j + 1) x') (O j x)
      rw [← hO']
      exact LastK.inv_from nms M P O hO step hn ds (j + 1) x' _ hd' hlt hp' hs'
theorem LastK.inv {items : List D} {μ : List MO} {Δ : DE} {outs : List D} (nms : List Str) (M : Nat → σ → List MO) (P : Nat → σ → Prop) (O : Nat → σ → List D) (x0 : σ) (hp : P 0 x0) (hm : μ = M 0 x0) (ho : outs = O 0 x0)
    (hs : Agree nms Δin Δ) (hO : ∀ j x, j < items.length → P j x → (O j x).length ≤ 16777216)
    (step : ∀ j x d, items[j]? = some d → P j x → ∃ b, BindT a tg d b ∧ b.map (·.1) = nms ∧ ∀ r, TestK B (a.wit r) (b ++ Δin) (M j x) ifs fun ok μ1 =>
      if ok then Ev B (a.wit r) (b ++ Δin) μ1 elt fun d' μ2 => d'.tree = true ∧ ∃ x', P (j + 1) x' ∧ μ2 = M (j + 1) x' ∧ O (j + 1) x' = O j x ++ [d']
      else ∃ x', P (j + 1) x' ∧ μ1 = M (j + 1) x' ∧ O (j + 1) x' = O j x)
    (hn : ∀ x Δ, P items.length x → Agree nms Δin Δ → K Δ (M items.length x) (O items.length x)) : LastK B a elt tg ifs K items Δ μ outs := by
  subst hm ho
  exact LastK.inv_from nms M P O hO step hn items 0 x0 Δ rfl (Nat.zero_le _) hp hs
/-- a clause without tests, that changes nothing -/
theorem LastK.pure {items : List D} {μ : List MO} {Δ : DE} {outs : List D} (nms : List Str) (g : D → D) (hz : outs.length + items.length ≤ 16777216) (hs : Agree nms Δin Δ)
    (step : ∀ d ∈ items, ∃ b, BindT a tg d b ∧ b.map (·.1) = nms ∧ ∀ r, Ev B (a.wit r) (b ++ Δin) μ elt fun d' μ2 => d'.tree = true ∧ d' = g d ∧ μ2 = μ)
    (hn : ∀ Δ, Agree nms Δin Δ → K Δ μ (outs ++ items.map g)) : LastK B a elt tg [] K items Δ μ outs := by
  refine LastK.inv (σ := Unit) nms (fun _ _ => μ) (fun _ _ => True) (fun j _ => outs ++ (items.take j).map g) () trivial rfl (by simp) hs (fun j _ hj _ => by simp; (exact ob111 hz)) (fun j _ d hd _ => ?_) fun _ Δ _ hs => ?_
  · obtain ⟨b, hb, hnm, h⟩ := step d (List.mem_of_getElem? hd)
    refine ⟨b, hb, hnm, fun r => ?_⟩
    refine (h r).mono fun d' μ2 h2 => ?_
    obtain ⟨ht, rfl, rfl⟩ := h2
    exact ⟨ht, (), trivial, rfl, by rw [List.take_add_one, hd]; simp⟩
  · rw [List.take_length]; exact hn Δ hs
theorem LastK.pure0 {μ : List MO} (g : D → D) : ∀ {items : List D} {Δ : DE} {outs : List D}, outs.length + items.length ≤ 16777216 →
    (∀ d ∈ items, ∃ b, BindT a tg d b ∧ ∀ Δ r, Ev B (a.wit r) (b ++ Δ) μ elt fun d' μ2 => d'.tree = true ∧ d' = g d ∧ μ2 = μ) →
    (∀ Δ, K Δ μ (outs ++ items.map g)) → LastK B a elt tg [] K items Δ μ outs
  | [], Δ, outs, hz, step, hn => by have := hn Δ; simp at this; exact this
  | d :: ds, Δ, outs, hz, step, hn => by
    obtain ⟨b, hb, h⟩ := step d (.head _)
    simp only [List.length_cons] at hz
    refine ⟨b, hb, fun r => ?_⟩
    refine (h Δ r).mono fun d' μ2 h2 => ?_
    obtain ⟨ht, rfl, rfl⟩ := h2
    exact ⟨ht, by (exact ob112 hz), LastK.pure0 g (by simp; (exact ob113 hz)) (fun e he => step e (.tail _ he)) fun Δ => by have := hn Δ; simpa using this⟩
/-- two clauses that change nothing -/
theorem TwoK.pure {t1 i2 : Expr} {μ : List MO} (its : D → List D) (g : D → D) : ∀ {items : List D} {Δ : DE} {outs : List D}, outs.length + (items.flatMap its).length ≤ 16777216 →
    (∀ d ∈ items, ∃ b, BindT a t1 d b ∧ (∀ Δ r, EvIter B (a.wit r) (b ++ Δ) μ tg i2 fun items2 μ1 => items2 = its d ∧ μ1 = μ) ∧
      ∀ e ∈ its d, ∃ b2, BindT a tg e b2 ∧ ∀ Δ r, Ev B (a.wit r) (b2 ++ Δ) μ elt fun d' μ2 => d'.tree = true ∧ d' = g e ∧ μ2 = μ) →
    (∀ Δ, K Δ μ (outs ++ items.flatMap fun d => (its d).map g)) → TwoK B a elt t1 tg i2 [] K items Δ μ outs
  | [], Δ, outs, hz, step, hn => by have := hn Δ; simp at this; exact this
  | d :: ds, Δ, outs, hz, step, hn => by
    obtain ⟨b, hb, h1, h2⟩ := step d (.head _)
    simp only [List.flatMap_cons, List.length_append] at hz
    refine ⟨b, hb, fun r => ?_⟩
    refine (h1 Δ r).mono fun items2 μ1 h => ?_
    obtain ⟨rfl, rfl⟩ := h
    refine LastK.pure0 g (by (exact ob114 hz)) h2 fun Δ' => ?_
    exact TwoK.pure its g (by rw [List.length_append, List.length_map]; (exact ob115 hz)) (fun e he => step e (.tail _ he)) fun Δ => by have := hn Δ; simpa using this
end
/-! W6 -/
/-! the chunks of a text of octets -/
noncomputable abbrev Chunk := List Nat × List Nat
noncomputable def nm (l : List Nat) : Str := ⟨l.toArray⟩
noncomputable def chD (c : Chunk) : D := .tuple [.str (nm c.1), .bytes (I c.2)]
noncomputable def signN : List Nat := [137, 80, 78, 71, 13, 10, 26, 10]
noncomputable def pgoG (w : List Nat → Nat → Nat) (c : List Nat → Nat) : List Nat → Option (List Chunk) :=
  (measure List.length).wf.fix fun l r => if h : l = [] then some []
  else if l.length < 4 ∨ l.length < 12 + w l 0 then none
  else if w l (8 + w l 0) ≠ c ((l.drop 4).take (4 + w l 0)) then none
  else (r (l.drop (12 + w l 0)) (by show (l.drop (12 + w l 0)).length < l.length; rw [List.length_drop]; exact Nat.sub_lt (List.length_pos_iff.mpr h) (Nat.lt_of_lt_of_le (by decide) (Nat.le_add_right 12 _)))).map fun r => (((l.drop 4).take (4 + w l 0)).take 4, ((l.drop 4).take (4 + w l 0)).drop 4) :: r
theorem pgoG_eq (w : List Nat → Nat → Nat) (c : List Nat → Nat) (l : List Nat) : pgoG w c l = if l = [] then some []
  else if l.length < 4 ∨ l.length < 12 + w l 0 then none
  else if w l (8 + w l 0) ≠ c ((l.drop 4).take (4 + w l 0)) then none
  else (pgoG w c (l.drop (12 + w l 0))).map fun r => (((l.drop 4).take (4 + w l 0)).take 4, ((l.drop 4).take (4 + w l 0)).drop 4) :: r := by
  refine ((measure List.length).wf.fix_eq _ l).trans ?_
  by_cases h : l = []
  · exact (dif_pos h).trans (if_pos h).symm
  · exact (dif_neg h).trans (if_neg h).symm
noncomputable def pgo (l : List Nat) : Option (List Chunk) := pgoG word crcN l
theorem pgo_eq (l : List Nat) : pgo l = if l = [] then some []
  else if l.length < 4 ∨ l.length < 12 + word l 0 then none
  else if word l (8 + word l 0) ≠ crcN ((l.drop 4).take (4 + word l 0)) then none
  else (pgo (l.drop (12 + word l 0))).map fun r => (((l.drop 4).take (4 + word l 0)).take 4, ((l.drop 4).take (4 + word l 0)).drop 4) :: r := by
  unfold pgo
  exact pgoG_eq word crcN l
noncomputable def parse (l : List Nat) : Option (List Chunk) := if l.take 8 = signN then pgo (l.drop 8) else none

theorem getD_drop (l : List Nat) (a i : Nat) : (l.drop a).getD i 0 = l.getD (a + i) 0 := by
  rw [List.getD_eq_getElem?_getD, List.getD_eq_getElem?_getD, List.getElem?_drop]
theorem word_drop (l : List Nat) (a i : Nat) : word (l.drop a) i = word l (a + i) := by
  unfold word; rw [getD_drop, getD_drop, getD_drop, getD_drop]; simp only [Nat.add_assoc]
theorem glue (l : List Nat) : Txt.join Str.empty (l.map fun c => (⟨#[c]⟩ : Str)) = nm l := by
  unfold Txt.join Builtin.Str.glued nm
  have key : ∀ (l : List Nat) (a : Array Nat), (l.map fun c => (⟨#[c]⟩ : Str)).foldl (fun acc p => acc ++ Str.empty.cps ++ p.cps) a = a ++ l.toArray := by
    intro l
    induction l with
    | nil => intro a; simp
    | cons c l ih =>
      intro a
      rw [List.map_cons, List.foldl_cons, ih]
      simp [Str.empty]
  cases l with
  | nil => rfl
  | cons c l =>
    rw [List.map_cons]
    show Str.mk (((l.map fun c => (⟨#[c]⟩ : Str)).foldl (fun acc p => acc ++ Str.empty.cps ++ p.cps) #[c])) = _
    rw [key]; simp

section
variable {B : Bs} {a : Act} {Δ : DE} {μ : List MO} {Kn : DE → List MO → Prop} {Kr : D → List MO → Prop} {σ : Type} {pos : Pos}
theorem Ex1.whileInv {t : Expr} {body : List Stmt} (F : σ → DE) (M : σ → List MO) (P : σ → Prop) (meas : σ → Nat) (x0 : σ) (hp : P x0) (hs : Sub (F x0) Δ) (hm : μ = M x0)
    (step : ∀ x Δ, P x → Sub (F x) Δ → EvB B a Δ (M x) t fun c μ1 => if c then Ex B a (F x) μ1 body (fun Δ' μ' => ∃ x', P x' ∧ meas x' < meas x ∧ Sub (F x') Δ' ∧ μ' = M x') Kr else Kn Δ μ1) :
    Ex1 B a Δ μ (.While t body [] pos) Kn Kr := by
  refine Ex1.while_ (fun n Δ μ => ∃ x, meas x = n ∧ P x ∧ Sub (F x) Δ ∧ μ = M x) (meas x0) ⟨x0, rfl, hp, hs, hm⟩ ?_
  rintro n Δ μ ⟨x, rfl, hp, hs, rfl⟩
  refine EvB.mono (step x Δ hp hs) fun c μ1 h => ?_
  cases c with
  | true => exact (Ex.weak h hs).mono (fun Δ' μ' ⟨x', hp', hm', hs', e⟩ => ⟨meas x', hm', x', rfl, hp', hs', e⟩) fun _ _ k => k
  | false => exact h
theorem Ex1C.whileInv {t : Expr} {body : List Stmt} (F : σ → DE) (M : σ → List MO) (P : σ → Prop) (meas : σ → Nat) (x0 : σ) (hp : P x0) (hs : Sub (F x0) Δ) (hm : μ = M x0)
    (step : ∀ x Δ, P x → Sub (F x) Δ → EvB B a Δ (M x) t fun c μ1 => if c then ExC B a (F x) μ1 body (fun Δ' μ' => ∃ x', P x' ∧ meas x' < meas x ∧ Sub (F x') Δ' ∧ μ' = M x') Kr else Kn Δ μ1) :
    Ex1C B a Δ μ (.While t body [] pos) Kn Kr := by
  refine Ex1C.while_ (fun n Δ μ => ∃ x, meas x = n ∧ P x ∧ Sub (F x) Δ ∧ μ = M x) (meas x0) ⟨x0, rfl, hp, hs, hm⟩ ?_
  rintro n Δ μ ⟨x, rfl, hp, hs, rfl⟩
  refine EvB.mono (step x Δ hp hs) fun c μ1 h => ?_
  cases c with
  | true => exact (ExC.weak h hs).mono (fun Δ' μ' ⟨x', hp', hm', hs', e⟩ => ⟨meas x', hm', x', rfl, hp', hs', e⟩) fun _ _ k => k
  | false => exact h
end
theorem nle {A : Around} {k : Nat} {f : Str} {L fa : Addr} {cd : Value} {fr : Option (List Env)} {n m : Nat} (h : m ≤ n) : m ≤ (actF A k f L fa cd fr n).n := h
theorem pgo_short {l : List Nat} (hne : l ≠ []) (h : l.length < 4 ∨ l.length < 12 + word l 0) : pgo l = none := by rw [pgo_eq, if_neg hne, if_pos h]
theorem pgo_step {l told : List Nat} {sz w c : Nat} (hne : l ≠ []) (h4 : 4 ≤ l.length) (hs : word l 0 = sz) (hf : 12 + sz ≤ l.length) (ht : (l.drop 4).take (4 + sz) = told) (hw : word l (8 + sz) = w) (hc : crcN told = c) :
    pgo l = if w ≠ c then none else (pgo (l.drop (12 + sz))).map fun r => (told.take 4, told.drop 4) :: r := by
  subst hs ht hw hc
  rw [pgo_eq, if_neg hne, if_neg (by (exact ob116 hf))]
theorem pgo_some {l : List Nat} (h : pgo l ≠ none) (hne : l ≠ []) : 4 ≤ l.length ∧ 12 + word l 0 ≤ l.length ∧ word l (8 + word l 0) = crcN ((l.drop 4).take (4 + word l 0)) := by
  rw [pgo_eq, if_neg hne] at h
  split at h
  · exact absurd rfl h
  · split at h
    · exact absurd rfl h
    · rename_i h1 h2
      exact ⟨by (exact ob117 h1), by (exact ob118 h1), by simpa using h2⟩

noncomputable def chrD : D → D
  | .int i => .str ⟨#[i.toNat]⟩
  | d => d
theorem fn_read_chunks {B : Bs} (st : Stat B) {ns : List Nat} {flt : Bool} (ho : Oct ns) (hz : ns.length ≤ 1000000) (hok : flt = false → parse ns ≠ none) :
    FnP B "read_chunks" 5 flt [.bytes (I ns)] (fun d => ∃ cs, parse ns = some cs ∧ d = .list (cs.map chD)) := by
  refine FnP.any (k := 19) (Δ := [("octets", .bytes (I ns))]) (ns := ["octets"]) st (by rfl) (Binds.one (by decide) fun fd v hp h1 h2 => by obtain ⟨⟩ := fd; subst hp h1 h2; rfl) rfl (by decide +kernel) fun A L fa cd fr hfr => ?_
  have bad : parse ns = none → ∃ l, fr = some l := fun h => hfr (by cases flt with | true => rfl | false => exact absurd h (hok rfl))
  have hl : (I ns).length = ns.length := I_len
  refine Ex.cons ?_
  refine Ex1.ife ?_
  refine EvB.cmp ?_ (by rfl)
  refine Ev.cut ?_
  refine Ev.name (by rfl) ?_
  refine EvP.none ?_
  refine EvP.some ?_
  refine Ev.kint ?_
  refine ⟨_, rfl, ?_⟩
  refine ⟨by (exact ob119 hl hz), Ev.gsign ?_⟩
  refine Op.neb ?_
  refine ⟨_, rfl, ?_⟩
  rw [sl_I, show sl ns none (some 8) = ns.take 8 from sl_to ns 8]
  refine ite_b (fun h => ?_) fun h => ?_
  · have hne : ns.take 8 ≠ signN := fun e => by rw [e] at h; exact absurd h (by decide)
    obtain ⟨l, rfl⟩ := bad (by unfold parse; rw [if_neg hne])
    refine Ex.cons ?_
    refine Ex1.raise ?_ rfl
    refine Ev.kstr ?_
    trivial
  have hs8 : ns.take 8 = signN := by
    have : I (ns.take 8) = [137, 80, 78, 71, 13, 10, 26, 10] := by simpa using h
    exact I_inj (this.trans rfl)
  have hlen : 8 ≤ ns.length := by have := congrArg List.length hs8; simp [signN] at this; (exact ob120 this)
  have hparse : parse ns = pgo (ns.drop 8) := by unfold parse; rw [if_pos hs8]
  refine Ex.nil ?_
  refine Ex.cons ?_
  refine Ex1.asgTup (names := ["found", "at"]) ?_ (by rfl) (by intro x hx; simp at hx; rcases hx with rfl | rfl <;> exact .inl (by rfl)) (by decide)
  refine EvL.cons (Ev.listM (EvL.nil ⟨rfl, by decide, ?_⟩))
  refine EvL.cons ?_
  refine Ev.kint ?_
  refine EvL.nil ?_
  refine ⟨rfl, ?_⟩
  refine Ex.cons ?_
  refine Ex1.whileInv (σ := Nat × List Chunk) (fun x => [("at", .int (x.1 : Nat)), ("found", .obj 0), ("octets", .bytes (I ns))]) (fun x => [.list (x.2.map chD)])
    (fun x => x.1 ≤ ns.length ∧ 8 ≤ x.1 ∧ pgo (ns.drop 8) = (pgo (ns.drop x.1)).map (x.2 ++ ·) ∧ x.2.length ≤ x.1) (fun x => ns.length - x.1) (8, []) ⟨hlen, Nat.le_refl _, by simp, by decide⟩ (.cons (by rfl) (.cons (by rfl) (.cons (by rfl) .nil))) rfl ?_
  rintro ⟨k, cs⟩ Δ ⟨hk, hk8, hp, hcl⟩ hs
  have hs : Sub [("at", .int (k : Nat)), ("found", .obj 0), ("octets", .bytes (I ns))] Δ := hs
  show EvB B _ Δ [.list (cs.map chD)] _ fun c μ1 => if c = true then Ex B _ [("at", .int (k : Nat)), ("found", .obj 0), ("octets", .bytes (I ns))] μ1 _ _ _ else _
  dsimp only at hk hk8 hp hcl
  refine EvB.cmp ?_ (by rfl)
  refine Ev.name (hs _ _ (by rfl)) ?_
  refine Ev.len (Ev.name (hs _ _ (by rfl)) ?_)
  refine ⟨by (exact ob121 hl hz), ?_⟩
  refine Op.lt ⟨_, rfl, ?_⟩
  refine ite_dec (fun h => ?_) fun h => ?_
  · have hlt : k < ns.length := by rw [hl] at h; (exact Int.ofNat_lt.mp h)
    have hne : ns.drop k ≠ [] := fun e => by have := congrArg List.length e; simp at this; (exact ob122 this hl h)
    have hw : word (ns.drop k) 0 = word ns k := by rw [word_drop]; rfl
    have hdl : (ns.drop k).length = ns.length - k := List.length_drop ..
    have bad' : pgo (ns.drop k) = none → ∃ l, fr = some l := fun h => bad (by rw [hparse, hp, h]; rfl)
    have shortB : (ns.drop k).length < 12 + word (ns.drop k) 0 → pgo (ns.drop k) = none := fun h => pgo_short hne (.inr h)
    have some_fr : flt = true → (actF A 19 "read_chunks" L fa cd fr 4).fr.isSome = true := fun h => by obtain ⟨l, rfl⟩ := hfr h; rfl
    have sure : flt = false → 4 ≤ (ns.drop k).length := fun hf => (pgo_some (l := ns.drop k) (fun e => hok hf (by rw [hparse, hp, e]; rfl)) hne).1
    have hwl := word_lt ho k
    have stp := fun (told : List Nat) (w c : Nat) h4 => @pgo_step (ns.drop k) told _ w c hne h4 hw
    rw [hw] at shortB
    refine Ex.cons ?_
    refine Ex1.assign (Ev.call (n := 1) (k := 10) (flt := flt) ?_ (hf := some_fr) (hn := nle (by decide))) (.inl (by rfl))
    refine EvL.cons ?_
    refine Ev.name (by rfl) ?_
    refine EvL.cons ?_
    refine Ev.name (by rfl) ?_
    refine EvL.nil ?_
    refine ⟨rfl, (fn_get32 st ho (by (exact Nat.le_trans hz (Nat.le_add_left _ _))) fun hf => ?_).mono fun d hd => ?_⟩
    · have := sure hf; (exact ob123 hdl this)
    obtain ⟨_, h4, rfl⟩ := hd
    rw [Int.toNat_natCast]
    generalize word ns k = sz at *
    refine Ex.cons ?_
    refine Ex1.ife ?_
    refine EvB.cmp ?_ (by rfl)
    refine Ev.binop ?_
    refine Ev.binop ?_
    refine Ev.name (by rfl) ?_
    refine Ev.kint ?_
    refine Op.add ?_
    refine Ev.name (by rfl) ?_
    refine Op.add ?_
    refine Ev.len ?_
    refine Ev.name (by rfl) ?_
    refine ⟨by first | (exact ob121 hl hz) | (simp only [List.length_cons, List.length_nil, List.length_map, List.length_append]; omega) | (simp; done) | decide, ?_⟩
    refine Op.gt ?_
    refine ⟨_, rfl, ?_⟩
    refine ite_dec (fun h => ?_) fun h => ?_
    · obtain ⟨l, rfl⟩ := bad' (shortB (by rw [hl] at h; (exact ob124 hdl h)))
      refine Ex.cons ?_
      refine Ex1.raise ?_ rfl
      refine Ev.kstr ?_
      trivial
    refine Ex.nil ?_
    have hsz : k + 12 + sz ≤ ns.length := by rw [hl] at h; (exact ob125 h)
    refine Ex.cons ?_
    refine Ex1.assign ?_ (.inl (by rfl))
    refine Ev.cut ?_
    refine Ev.name (by rfl) ?_
    refine EvP.some ?_
    refine Ev.binop ?_
    refine Ev.name (by rfl) ?_
    refine Ev.kint ?_
    refine Op.add ?_
    refine ⟨_, rfl, ?_⟩
    refine EvP.some ?_
    refine Ev.binop ?_
    refine Ev.binop ?_
    refine Ev.name (by rfl) ?_
    refine Ev.kint ?_
    refine Op.add ?_
    refine Ev.name (by rfl) ?_
    refine Op.add ?_
    refine ⟨_, rfl, ?_⟩
    have tolds : sl (I ns) (some ((k : Int) + 4)) (some ((k : Int) + 8 + (sz : Nat))) = I ((ns.drop (k + 4)).take (4 + sz)) := by
      rw [sl_I]
      have := sl_nat ns (k + 4) (k + 8 + sz)
      simp only [Int.natCast_add] at this
      rw [show k + 8 + sz - (k + 4) = 4 + sz by (exact ob126)] at this
      exact congrArg I this
    refine ⟨by (grind), ?_⟩
    rw [tolds]
    have ht : ((ns.drop k).drop 4).take (4 + sz) = (ns.drop (k + 4)).take (4 + sz) := by rw [List.drop_drop]
    generalize htd : (ns.drop (k + 4)).take (4 + sz) = told at ht ⊢
    have hot : Oct told := by rw [← htd]; exact (ho.drop _).take _
    have hlt' : told.length = 4 + sz := by rw [← htd]; simp; (exact ob127 hl h)
    refine Ex.cons ?_
    refine Ex1.ife (EvB.cmp ?_ (by rfl))
    refine Ev.call (n := 1) (k := 10) (flt := flt) ?_ (hf := some_fr) (hn := nle (by decide))
    refine EvL.cons ?_
    refine Ev.name (by rfl) ?_
    refine EvL.cons ?_
    refine Ev.binop ?_
    refine Ev.binop ?_
    refine Ev.name (by rfl) ?_
    refine Ev.kint ?_
    refine Op.add ?_
    refine Ev.name (by rfl) ?_
    refine Op.add ?_
    refine EvL.nil ?_
    refine ⟨rfl, (fn_get32 st ho (by (exact Nat.le_trans hz (Nat.le_add_left _ _))) fun hf => ?_).mono fun d hd => ?_⟩
    · (exact ob128 hl h)
    obtain ⟨_, _, rfl⟩ := hd
    refine Ev.call (n := 3) (k := 12) (flt := false) ?_ (hn := nle (by decide))
    refine EvL.cons ?_
    refine Ev.name (by rfl) ?_
    refine EvL.nil ?_
    refine ⟨rfl, (fn_crc32 st).mono fun d hd => ?_⟩
    subst hd
    refine Op.ne ⟨_, rfl, ?_⟩
    have et : ((k : Int) + 8 + (sz : Nat)).toNat = k + (8 + sz) := by (exact Nat.add_assoc _ _ _)
    rw [et, ← word_drop]
    have stp := stp told _ _ (by (exact ob129 hdl h4)) (by (exact ob130 hdl hl h)) ht rfl rfl
    generalize word (ns.drop k) (8 + sz) = w at *
    generalize crcN told = c at *
    refine ite_bne (fun h => ?_) fun h => ?_
    · obtain ⟨l, rfl⟩ := bad' (by rw [stp, if_pos (by (exact ob131 h))])
      refine Ex.cons ?_
      refine Ex1.raise ?_ rfl
      refine Ev.kstr ?_
      trivial
    refine Ex.nil ?_
    rw [if_neg (by (exact ob132 h)), List.drop_drop] at stp
    refine Ex.cons ?_
    refine Ex1.expr (Ev.append ?_)
    refine Ev.name (by rfl) ?_
    refine ⟨0, _, rfl, rfl, ?_⟩
    refine Ev.tuple (EvL.cons (Ev.joins ?_))
    refine Ev.kstr ?_
    refine ⟨rfl, Ev.comp1 (cl := []) (Δin := []) (EvIter.data ?_) (by rfl) trivial trivial (by rfl)⟩
    refine Ev.cut ?_
    refine Ev.name (by rfl) ?_
    refine EvP.none ?_
    refine EvP.some ?_
    refine Ev.kint ?_
    refine ⟨_, rfl, ?_⟩
    refine ⟨by rw [I_len]; (grind), ?_⟩
    rw [sl_I, show sl told none (some 4) = told.take 4 from sl_to told 4]
    refine ⟨_, rfl, fun L' => ?_⟩
    rw [I_N]
    refine LastK.pure0 chrD (by simp [N_len]; (exact ob133)) (fun d hd => ?_) fun Δ' => ?_
    · obtain ⟨n, hn, rfl⟩ := List.mem_map.mp hd
      have := hot n (List.mem_of_mem_take hn)
      refine ⟨_, .name _ _ _ (.inl (by rfl)), fun Δ' r => ?_⟩
      refine Ev.chr ?_
      refine Ev.name (by rfl) ?_
      refine ⟨_, rfl, ?_⟩
      refine ⟨by (exact Int.natCast_nonneg _), by (exact ob134 this), rfl, rfl, rfl⟩
    refine ⟨(told.take 4).map fun c => ⟨#[c]⟩, ?_, ?_, ?_⟩
    · rw [N, List.map_map, List.nil_append, List.map_map]
      exact congrArg D.list (List.map_congr_left fun n _ => rfl)
    · have e : ((told.take 4).map fun c => (⟨#[c]⟩ : Str)).map (·.length) = (told.take 4).map fun _ => 1 := by rw [List.map_map]; rfl
      have e2 : ∀ l : List Nat, (l.map fun _ => 1).sum = l.length := fun l => by induction l with | nil => rfl | cons a l ih => simp [ih]; (exact Nat.add_comm _ _)
      rw [e, e2, List.length_map, List.length_take]; (exact ob135)
    rw [glue]
    refine EvL.cons ?_
    refine Ev.toBytes ?_
    refine Ev.cut ?_
    refine Ev.name (by rfl) ?_
    refine EvP.some ?_
    refine Ev.kint ?_
    refine ⟨_, rfl, ?_⟩
    refine EvP.none ?_
    refine ⟨by rw [I_len]; (grind), ?_⟩
    rw [sl_I, show sl told (some 4) none = told.drop 4 from sl_from told 4]
    refine EvL.nil ⟨rfl, by show 2 ≤ 16777216; decide, _, rfl, rfl, by rw [List.length_map]; (exact ob136 hcl h4 hz), ?_⟩
    refine Ex.cons ?_
    refine Ex1.assign ?_ (.inl (by rfl))
    refine Ev.binop ?_
    refine Ev.binop ?_
    refine Ev.name (by rfl) ?_
    refine Ev.kint ?_
    refine Op.add ?_
    refine Ev.name (by rfl) ?_
    refine Op.add ?_
    refine Ex.nil ⟨(k + (12 + sz), cs ++ [(told.take 4, told.drop 4)]), ⟨by dsimp only; omega, by dsimp only; (exact ob137), ?_, by rw [List.length_append]; dsimp only; simp; (exact ob138 hcl)⟩, by dsimp only; (exact ob139 h4), .cons (by show some _ = some _; congr 2; simp; (exact ob140)) (.cons (by rfl) (.cons (by rfl) .nil)), ?_⟩
    · rw [hp, stp]
      dsimp only
      cases pgo (ns.drop (k + (12 + sz))) with
      | none => rfl
      | some r => simp
    · rw [List.map_append]; rfl
  · have hkl : k = ns.length := by rw [hl] at h; (exact ob141 h hk)
    subst hkl
    refine Ex.weak ?_ hs
    refine Ex.cons ?_
    refine Ex1.ret (Ev.freeze (by rfl) (by rfl) ⟨rfl, cs, ?_, rfl⟩)
    rw [hparse, hp, List.drop_length, pgo_eq]
    simp
/-! W7 -/
theorem enumN_get {l : List Nat} {j : Nat} {d : D} (h : (enumD (N l))[j]? = some d) : ∃ n, l[j]? = some n ∧ d = .tuple [.int (j : Nat), .int (n : Nat)] := by
  unfold enumD N at h
  rw [List.getElem?_map, List.getElem?_zipIdx, List.getElem?_map] at h
  cases e : l[j]? with
  | none => rw [e] at h; simp at h
  | some n => rw [e] at h; simp at h; exact ⟨n, rfl, h.symm⟩
theorem enumN_len {l : List Nat} : (enumD (N l)).length = l.length := by unfold enumD N; simp
theorem and255 {n : Nat} (h : n < 256) : Builtin.bitAnd ((n : Nat) : Int) 255 = (n : Nat) := by
  rw [show (255 : Int) = ((255 : Nat) : Int) from rfl, bitAnd_nat, Nat.and_two_pow_sub_one_eq_mod n 8]; congr 1; (exact ob142 h)
theorem fn_unfiltered0 {B : Bs} (st : Stat B) {told above : List Nat} {flt : Bool} (ho : Oct told) (hz : told.length ≤ 1000000) (hz' : above.length ≤ 1000000) (hle : told.length ≤ above.length) :
    FnC B "unfiltered" 3 flt [.int 0, .bytes (I told), .bytes (I above), .int 4] (fun d => d = .bytes (I told)) := by
  refine FnC.any (k := 7) (Δ := [("kind", .int 0), ("told", .bytes (I told)), ("above", .bytes (I above)), ("step", .int 4)]) (ns := ["kind", "told", "above", "step"]) st (by rfl) (Binds.four (by decide) fun fd u v w t hp h1 h2 => by obtain ⟨⟩ := fd; subst hp h1 h2; rfl) rfl (by decide +kernel) fun A L fa cd fr hfr => ?_
  have hla : (I above).length = above.length := I_len
  refine ExC.cons (Ex1C.assign (EvC.newB ?_) (.inl (by rfl)))
  refine ExC.cons (Ex1C.for_ (EvIter.enum ?_))
  refine Ev.name (by rfl) ?_
  refine .inr ⟨_, rfl, ?_⟩
  rw [I_N]
  refine ForKC.inv (σ := Unit) (fun j _ => [("row", .obj 0), ("kind", .int 0), ("above", .bytes (I above)), ("step", .int 4)]) (fun j _ => [.barr (I (told.take j))]) (fun _ _ => True) () trivial (.cons (by rfl) (.cons (by rfl) (.cons (by rfl) (.cons (by rfl) .nil)))) rfl (fun j _ d hj _ => ?_) fun _ Δ _ hs => ?_
  · obtain ⟨n, hn, rfl⟩ := enumN_get hj
    have hjl : j < told.length := (List.getElem?_eq_some_iff.mp hn).1
    have hn8 : n < 256 := ho n (List.mem_of_getElem? hn)
    have hlt : (I (told.take j)).length = j := by rw [I_len, List.length_take]; (exact ob143 hjl)
    refine ⟨_, .pair _ _ _ _ _ _ _ _ (.inl (by rfl)) (.inl (by rfl)), fun r => ?_⟩
    refine ExC.step (Ex1.assign (Ev.mono (K' := fun d μ1 => (∃ lf : Int, d = .int lf) ∧ μ1 = [.barr (I (told.take j))]) ?_ ?_) (.inl (by rfl)))
    · refine Ev.ifexp ?_
      refine EvB.cmp ?_ (by rfl)
      refine Ev.name (by rfl) ?_
      refine Ev.name (by rfl) ?_
      refine Op.ge ?_
      refine ⟨_, rfl, ?_⟩
      refine ite_dec (fun h => ?_) fun h => ?_
      · refine Ev.itemB (by rfl) ?_
        refine Ev.binop ?_
        refine Ev.name (by rfl) ?_
        refine Ev.name (by rfl) ?_
        refine Op.sub ?_
        have e : ((j : Int) - 4).toNat = j - 4 := by (exact ob144)
        refine ⟨_, _, _, rfl, by (exact ob145 h), rfl, by (exact ob146 hlt hjl hle hz'), by rw [e]; exact I_getD (by rw [List.length_take]; (exact ob147 h hjl)), ⟨_, rfl⟩, rfl⟩
      · refine Ev.kint ?_
        exact ⟨⟨_, rfl⟩, rfl⟩
    rintro d μ1 ⟨⟨lf, rfl⟩, rfl⟩
    refine ExC.step (Ex1.assign (Ev.mono (K' := fun d μ1 => (∃ lf : Int, d = .int lf) ∧ μ1 = [.barr (I (told.take j))]) ?_ ?_) (.inl (by rfl)))
    · refine Ev.ifexp ?_
      refine EvB.cmp ?_ (by rfl)
      refine Ev.name (by rfl) ?_
      refine Ev.name (by rfl) ?_
      refine Op.ge ?_
      refine ⟨_, rfl, ?_⟩
      refine ite_dec (fun h => ?_) fun h => ?_
      · refine Ev.item ?_
        refine Ev.name (by rfl) ?_
        refine Ev.binop ?_
        refine Ev.name (by rfl) ?_
        refine Ev.name (by rfl) ?_
        refine Op.sub ?_
        have e : ((j : Int) - 4).toNat = j - 4 := by (exact ob144)
        exact ⟨_, by rw [e]; exact I_getD (by (exact ob148 hle hjl)), by (exact ob145 h), by (exact ob149 hla hz'), ⟨_, rfl⟩, rfl⟩
      · refine Ev.kint ?_
        exact ⟨⟨_, rfl⟩, rfl⟩
    rintro d μ1 ⟨⟨co, rfl⟩, rfl⟩
    refine ExC.cons (Ex1C.expr (EvC.append (by rfl) (by rfl) ?_))
    refine Ev.binop ?_
    refine Ev.binop ?_
    refine Ev.name (by rfl) ?_
    refine Ev.call (n := 1) (k := 6) (flt := false) ?_ (hn := Nat.le_of_ble_eq_true rfl)
    refine EvL.cons ?_
    refine Ev.name (by rfl) ?_
    refine EvL.cons ?_
    refine Ev.name (by rfl) ?_
    refine EvL.cons ?_
    refine Ev.item ?_
    refine Ev.name (by rfl) ?_
    refine Ev.name (by rfl) ?_
    refine ⟨_, I_getD (k := j) (by (exact Nat.lt_of_lt_of_le hjl hle)), by (exact Int.natCast_nonneg _), by (exact ob149 hla hz'), ?_⟩
    refine EvL.cons ?_
    refine Ev.name (by rfl) ?_
    refine EvL.nil ?_
    refine ⟨rfl, (fn_guess0 st).mono fun d hd => ?_⟩
    subst hd
    refine Op.add ?_
    refine Ev.kint ?_
    refine Op.and ?_
    rw [Int.add_zero, and255 hn8]
    refine ⟨_, _, rfl, by (exact Int.natCast_nonneg _), by (exact Int.ofNat_lt.mpr hn8), rfl, by (exact ob150 hlt hjl hle hz'), ?_⟩
    refine ExC.nil ⟨(), trivial, .cons (by rfl) (.cons (by rfl) (.cons (by rfl) (.cons (by rfl) .nil))), ?_⟩
    rw [List.take_add_one, hn, I_app]; rfl
  · rw [enumN_len, List.take_length]
    refine ExC.weak ?_ hs
    refine ExC.step (Ex1.ret (Ev.toBytes (Ev.freezeB (by rfl) (by rfl) ⟨by rw [I_len]; (exact Nat.le_trans hz (Nat.le_add_left _ _)), rfl, rfl⟩)))
theorem fn_unfiltered5 {B : Bs} (st : Stat B) {told above : List Nat} (hz : told.length ≤ 1000000) (hz' : above.length ≤ 1000000) (h0 : 0 < told.length) (h1 : 0 < above.length) :
    FnC B "unfiltered" 3 true [.int 5, .bytes (I told), .bytes (I above), .int 4] (fun d => False) := by
  refine FnC.any (k := 7) (Δ := [("kind", .int 5), ("told", .bytes (I told)), ("above", .bytes (I above)), ("step", .int 4)]) (ns := ["kind", "told", "above", "step"]) st (by rfl) (Binds.four (by decide) fun fd u v w t hp h1 h2 => by obtain ⟨⟩ := fd; subst hp h1 h2; rfl) rfl (by decide +kernel) fun A L fa cd fr hfr => ?_
  obtain ⟨fl, rfl⟩ := hfr rfl
  have hla : (I above).length = above.length := I_len
  obtain ⟨o, r, rfl⟩ : ∃ o r, told = o :: r := by cases told with | nil => cases h0 | cons o r => exact ⟨o, r, rfl⟩
  refine ExC.cons (Ex1C.assign (EvC.newB ?_) (.inl (by rfl)))
  refine ExC.cons (Ex1C.for_ (EvIter.enum ?_))
  refine Ev.name (by rfl) ?_
  refine .inr ⟨_, rfl, ?_⟩
  show ForKC B _ _ _ _ _ (.tuple [.int 0, .int (o : Nat)] :: _) _ [.barr []]
  refine ⟨_, .pair _ _ _ _ _ _ _ _ (.inl (by rfl)) (.inl (by rfl)), fun r => ?_⟩
  refine ExC.step ?_
  refine Ex1.assign ?_ (.inl (by rfl))
  refine Ev.ifexp ?_
  refine EvB.cmp ?_ (by rfl)
  refine Ev.name (by rfl) ?_
  refine Ev.name (by rfl) ?_
  refine Op.ge ?_
  refine ⟨_, rfl, ?_⟩
  refine ite_f (by decide) ?_
  refine Ev.kint ?_
  refine ExC.step ?_
  refine Ex1.assign ?_ (.inl (by rfl))
  refine Ev.ifexp ?_
  refine EvB.cmp ?_ (by rfl)
  refine Ev.name (by rfl) ?_
  refine Ev.name (by rfl) ?_
  refine Op.ge ?_
  refine ⟨_, rfl, ?_⟩
  refine ite_f (by decide) ?_
  refine Ev.kint ?_
  refine ExC.cons (Ex1C.expr (EvC.append (by rfl) (by rfl) ?_))
  refine Ev.binop ?_
  refine Ev.binop ?_
  refine Ev.name (by rfl) ?_
  refine Ev.call (n := 1) (k := 6) (flt := true) ?_ (hn := Nat.le_of_ble_eq_true rfl)
  refine EvL.cons ?_
  refine Ev.name (by rfl) ?_
  refine EvL.cons ?_
  refine Ev.name (by rfl) ?_
  refine EvL.cons ?_
  refine Ev.item ?_
  refine Ev.name (by rfl) ?_
  refine Ev.name (by rfl) ?_
  refine ⟨_, I_getD (k := 0) (by omega), by decide, by (exact ob149 hla hz'), ?_⟩
  refine EvL.cons ?_
  refine Ev.name (by rfl) ?_
  refine EvL.nil ?_
  refine ⟨rfl, (fn_guess5 st).mono fun d hd => hd.elim⟩
/-! W8 -/
noncomputable def four (n : Nat) : List Nat := [n / 16777216 % 256, n / 65536 % 256, n / 256 % 256, n % 256]
theorem four_oct (n : Nat) : Oct (four n) := fun o h => by
  simp only [four, List.mem_cons, List.not_mem_nil, or_false] at h; (exact ob151 h)
theorem four_len (n : Nat) : (four n).length = 4 := rfl
theorem word_mid (l : List Nat) (a b c d : Nat) (r : List Nat) : word (l ++ [a, b, c, d] ++ r) l.length = be32 a b c d := by
  unfold word
  simp only [List.getD_eq_getElem?_getD, List.append_assoc]
  rw [List.getElem?_append_right (Nat.le_refl _), List.getElem?_append_right (Nat.le_add_right _ _), List.getElem?_append_right (Nat.le_add_right _ _), List.getElem?_append_right (Nat.le_add_right _ _)]
  simp
theorem be32_four {n : Nat} (h : n < 4294967296) : be32 (n / 16777216 % 256) (n / 65536 % 256) (n / 256 % 256) (n % 256) = n := by unfold be32; (exact ob152 h)
theorem word_four (l r : List Nat) {n : Nat} (h : n < 4294967296) : word (l ++ four n ++ r) l.length = n := (word_mid l _ _ _ _ r).trans (be32_four h)
noncomputable def adlW (d : List Nat) : Nat := (adl d).2 * 65536 + (adl d).1
theorem adlW_lt (d : List Nat) : adlW d < 4294967296 := by have := adl_lt d; unfold adlW; (exact ob153 this)
noncomputable def strm (d : List Nat) : List Nat := [120, 1, 1, d.length % 256, d.length / 256, 255 - d.length % 256, 255 - d.length / 256] ++ d ++ four (adlW d)
theorem strm_len (d : List Nat) : (strm d).length = d.length + 11 := by unfold strm; simp [four_len]
theorem strm_word (d : List Nat) : word (strm d) (7 + d.length) = adlW d := by
  have := word_four ([120, 1, 1, d.length % 256, d.length / 256, 255 - d.length % 256, 255 - d.length / 256] ++ d) [] (adlW_lt d)
  rw [List.append_nil] at this
  refine Eq.trans ?_ this
  rw [List.length_append]; rfl
theorem strm_oct {d : List Nat} (h : Oct d) (hz : d.length < 65536) : Oct (strm d) := by
  refine Oct.app (Oct.app (fun o ho => ?_) h) (four_oct _)
  simp only [List.mem_cons, List.not_mem_nil, or_false] at ho; (exact ob154 ho hz)
theorem strm_mid (d : List Nat) : ((strm d).drop 7).take d.length = d := by
  unfold strm
  rw [List.append_assoc]
  show ((d ++ four (adlW d)).take d.length) = d
  simp
theorem or_next {b : Bool} {X Y : Prop} (h : b = false) (x : X) : if b = (BoolOp.Or == BoolOp.And) then X else Y := by subst h; exact x
theorem and_next {b : Bool} {X Y : Prop} (h : b = true) (x : X) : if b = (BoolOp.And == BoolOp.And) then X else Y := by subst h; exact x
theorem fn_unstored {B : Bs} (st : Stat B) {d : List Nat} {flt : Bool} (ho : Oct d) (hz : d.length < 65536) : FnC B "unstored" 3 flt [.bytes (I (strm d))] (fun x => x = .bytes (I d)) := by
  refine FnC.any (k := 15) (Δ := [("octets", .bytes (I (strm d)))]) (ns := ["octets"]) st (by rfl) (Binds.one (by decide) fun fd v hp h1 h2 => by obtain ⟨⟩ := fd; subst hp h1 h2; rfl) rfl (by decide +kernel) fun A L fa cd fr hfr => ?_
  have hl : (I (strm d)).length = d.length + 11 := I_len.trans (strm_len d)
  have hso := strm_oct ho hz
  have hsl := strm_len d
  have hsw := strm_word d
  have hsm := strm_mid d
  have g0 : (strm d).getD 0 0 = 120 := rfl
  have g1 : (strm d).getD 1 0 = 1 := rfl
  have g2 : (strm d).getD 2 0 = 1 := rfl
  have bs := fun (flt : Bool) => fn_block_size st (ns := strm d) (lo := d.length % 256) (hi := d.length / 256) (flt := flt) (by (exact ob155 hsl hz)) (by (exact ob156)) (by (exact ob157 hz)) (by (exact ob158 hsl)) rfl rfl rfl rfl rfl
  have edl : d.length % 256 + 256 * (d.length / 256) = d.length := by (exact ob159)
  rw [edl] at bs
  generalize strm d = s at *
  refine ExC.step ?_
  refine Ex1.ife ?_
  refine EvB.bop ?_
  refine EvAll.cons ?_
  refine EvB.cmp ?_ (by rfl)
  refine Ev.len ?_
  refine Ev.name (by rfl) ?_
  refine ⟨by first | (exact ob160 hl hz) | (simp only [List.length_cons, List.length_nil, List.length_map, List.length_append]; omega) | (simp; done) | decide, ?_⟩
  refine Ev.kint ?_
  refine Op.lt ?_
  refine ⟨_, rfl, ?_⟩
  refine or_next (by rw [hl]; simp; (exact ob161)) ?_
  refine EvAll.cons ?_
  refine EvB.cmp ?_ (by rfl)
  refine Ev.binop ?_
  refine Ev.item ?_
  refine Ev.name (by rfl) ?_
  refine Ev.kint ?_
  refine ⟨_, I_getD (k := 0) (by (exact ob162 hsl)), by decide, by (exact ob163 hl hz), ?_⟩
  rw [g0]
  refine Ev.kint ?_
  refine Op.and ?_
  refine Ev.kint ?_
  refine Op.ne ?_
  refine ⟨_, rfl, ?_⟩
  refine or_next (by decide) ?_
  refine EvAll.cons ?_
  refine EvB.cmp ?_ (by rfl)
  refine Ev.binop ?_
  refine Ev.binop ?_
  refine Ev.binop ?_
  refine Ev.kint ?_
  refine Ev.item ?_
  refine Ev.name (by rfl) ?_
  refine Ev.kint ?_
  refine ⟨_, I_getD (k := 0) (by (exact ob162 hsl)), by decide, by (exact ob163 hl hz), ?_⟩
  rw [g0]
  refine Op.mul (mulSmall (by decide) (by decide)) ?_
  refine Ev.item ?_
  refine Ev.name (by rfl) ?_
  refine Ev.kint ?_
  refine ⟨_, I_getD (k := 1) (by (exact ob164 hsl)), by decide, by (exact ob163 hl hz), ?_⟩
  rw [g1]
  refine Op.add ?_
  refine Ev.kint ?_
  refine Op.mod (by (exact Int.natCast_nonneg _)) ?_
  refine Ev.kint ?_
  refine Op.ne ?_
  refine ⟨_, rfl, ?_⟩
  refine or_next (by decide) ?_
  refine EvAll.cons ?_
  refine EvB.cmp ?_ (by rfl)
  refine Ev.binop ?_
  refine Ev.item ?_
  refine Ev.name (by rfl) ?_
  refine Ev.kint ?_
  refine ⟨_, I_getD (k := 1) (by (exact ob164 hsl)), by decide, by (exact ob163 hl hz), ?_⟩
  rw [g1]
  refine Ev.kint ?_
  refine Op.and ?_
  refine Ev.kint ?_
  refine Op.ne ?_
  refine ⟨_, rfl, ?_⟩
  refine or_next (by decide) ?_
  refine EvAll.nil ?_
  refine ite_f (by decide) (Ex.nil ?_)
  refine ExC.cons (Ex1C.asgTup (names := ["found", "at", "is_last"]) (EvC.newB ?_) (by rfl) (by intro x hx; simp at hx; rcases hx with rfl | rfl | rfl <;> exact .inl (by rfl)) (by decide))
  refine EvL.cons ?_
  refine Ev.kint ?_
  refine EvL.cons ?_
  refine Ev.kbool ?_
  refine EvL.nil ?_
  refine ⟨rfl, ?_⟩
  refine ExC.cons (Ex1C.whileInv (σ := Bool) (fun x => [("is_last", .bool x), ("at", .int (if x then 7 + d.length else 2 : Nat)), ("found", .obj 0), ("octets", .bytes (I s))]) (fun x => [.barr (I (if x then d else []))]) (fun _ => True) (fun x => if x then 0 else 1)
    false trivial (.cons (by rfl) (.cons (by rfl) (.cons (by rfl) (.cons (by rfl) .nil)))) rfl ?_)
  rintro x Δ - hs
  refine EvB.nop (EvB.plain (Ev.name (hs _ _ (by rfl)) ⟨_, rfl, ?_⟩))
  cases x with
  | false =>
    refine ite_t rfl ?_
    simp only [Bool.false_eq_true, if_false]
    refine ExC.step (Ex1.assign (Ev.call (n := 1) (k := 14) (flt := false) ?_ (hn := Nat.le_of_ble_eq_true rfl)) (.inl (by rfl)))
    refine EvL.cons ?_
    refine Ev.name (by rfl) ?_
    refine EvL.cons ?_
    refine Ev.name (by rfl) ?_
    refine EvL.nil ?_
    refine ⟨rfl, (bs false).mono fun x hx => ?_⟩
    subst hx
    refine ExC.step ?_
    refine Ex1.assign ?_ (.inl (by rfl))
    refine Ev.cmp ?_ (by rfl)
    refine Ev.item ?_
    refine Ev.name (by rfl) ?_
    refine Ev.name (by rfl) ?_
    refine ⟨_, I_getD (k := 2) (by (exact ob165 hsl)), by decide, by (exact ob163 hl hz), ?_⟩
    rw [g2]
    refine Ev.kint ?_
    refine Op.eq ?_
    refine ExC.cons (Ex1C.expr (EvC.extend (by rfl) (by rfl) ?_))
    refine Ev.cut ?_
    refine Ev.name (by rfl) ?_
    refine EvP.some ?_
    refine Ev.binop ?_
    refine Ev.name (by rfl) ?_
    refine Ev.kint ?_
    refine Op.add ?_
    refine ⟨_, rfl, ?_⟩
    refine EvP.some ?_
    refine Ev.binop ?_
    refine Ev.binop ?_
    refine Ev.name (by rfl) ?_
    refine Ev.kint ?_
    refine Op.add ?_
    refine Ev.name (by rfl) ?_
    refine Op.add ?_
    refine ⟨_, rfl, ?_⟩
    refine ⟨by (exact ob155 hl hz), ?_⟩
    have e1 : sl (I s) (some (((2 : Nat) : Int) + 5)) (some (((2 : Nat) : Int) + 5 + (d.length : Nat))) = I d := by
      rw [sl_I]
      have := sl_nat s 7 (7 + d.length)
      rw [show 7 + d.length - 7 = d.length by (exact ob166), hsm] at this
      refine congrArg I (Eq.trans ?_ this)
      congr 2
    rw [e1]
    refine ⟨_, _, rfl, rfl, by have : (I d).length = d.length := I_len; show 0 + (I d).length ≤ _; (exact ob167 this hz), ?_⟩
    refine ExC.step ?_
    refine Ex1.assign ?_ (.inl (by rfl))
    refine Ev.binop ?_
    refine Ev.binop ?_
    refine Ev.name (by rfl) ?_
    refine Ev.kint ?_
    refine Op.add ?_
    refine Ev.name (by rfl) ?_
    refine Op.add ?_
    refine ExC.nil ⟨true, trivial, by decide, .cons (by rfl) (.cons ?_ (.cons (by rfl) (.cons (by rfl) .nil))), rfl⟩
    exact congrArg (fun x : Int => some (D.int x)) (by simp)
  | true =>
    simp only [if_true] at hs ⊢
    refine ite_f rfl ?_
    refine ExC.weak ?_ hs
    refine ExC.still (x := "found") (by rfl) (by rfl) (.inr ⟨_, rfl, rfl⟩) ?_
    refine ExC.step ?_
    refine Ex1.ife ?_
    refine EvB.bop ?_
    refine EvAll.cons ?_
    refine EvB.cmp ?_ (by rfl)
    refine Ev.binop ?_
    refine Ev.name (by rfl) ?_
    refine Ev.kint ?_
    refine Op.add ?_
    refine Ev.len ?_
    refine Ev.name (by rfl) ?_
    refine ⟨by first | (exact ob160 hl hz) | (simp only [List.length_cons, List.length_nil, List.length_map, List.length_append]; omega) | (simp; done) | decide, ?_⟩
    refine Op.ne ?_
    refine ⟨_, rfl, ?_⟩
    refine or_next (by rw [hl]; simp; (exact ob168)) ?_
    refine EvB.cmp ?_ (by rfl)
    refine Ev.call (n := 1) (k := 10) (flt := false) ?_ (hn := Nat.le_of_ble_eq_true rfl)
    refine EvL.cons ?_
    refine Ev.name (by rfl) ?_
    refine EvL.cons ?_
    refine Ev.name (by rfl) ?_
    refine EvL.nil ?_
    refine ⟨rfl, (fn_get32 st hso (by (exact ob155 hsl hz)) fun _ => by (exact ob169 hsl)).mono fun x hx => ?_⟩
    obtain ⟨_, _, rfl⟩ := hx
    refine Ev.call (n := 1) (k := 13) (flt := false) ?_ (hn := Nat.le_of_ble_eq_true rfl)
    refine EvL.cons ?_
    refine Ev.name (by rfl) ?_
    refine EvL.nil ?_
    refine ⟨rfl, (fn_adler32 st).mono fun x hx => ?_⟩
    subst hx
    rw [Int.toNat_natCast, hsw]
    refine Op.ne ⟨_, rfl, ?_⟩
    refine or_next (by unfold adlW; simp) ?_
    refine EvAll.nil ?_
    refine ite_f (by rfl) (Ex.nil ?_)
    refine ExC.step (Ex1.ret (Ev.toBytes (Ev.name (by rfl) ?_)))
    exact ⟨by rw [I_len]; (exact Nat.le_trans (Nat.le_of_lt hz) (Nat.le_of_ble_eq_true rfl)), rfl, rfl⟩
/-! W9 -/
noncomputable def IHDR : List Nat := [73, 72, 68, 82]
noncomputable def IEND : List Nat := [73, 69, 78, 68]
noncomputable def IDAT : List Nat := [73, 68, 65, 84]
theorem nm_inj {l k : List Nat} (h : nm l = nm k) : l = k := by
  unfold nm at h; injection h with h; exact congrArg Array.toList h
theorem nm_beq {l k : List Nat} : (nm l == nm k) = decide (l = k) := by
  by_cases h : l = k
  · subst h; simp
  · rw [decide_eq_false h]; simp; exact fun e => h (nm_inj e)
theorem nm_bne {l k : List Nat} : (nm l != nm k) = !decide (l = k) := by unfold bne; rw [nm_beq]
structure Chk (cs : List Chunk) : Prop where
  first : ∃ c r, cs = c :: r ∧ c.1 = IHDR ∧ c.2.length = 13 ∧ c.2.drop 8 = [8, 6, 0, 0, 0]
  last : ∃ c r, cs = r ++ [c] ∧ c.1 = IEND
  has : IDAT ∈ cs.map (·.1)
  one : (cs.map (·.1)).count IHDR ≤ 1
  oneE : (cs.map (·.1)).count IEND ≤ 1
noncomputable def nms (cs : List Chunk) : List Str := cs.map fun c => nm c.1
theorem nms_map (cs : List Chunk) : nms cs = (cs.map (·.1)).map nm := by unfold nms; rw [List.map_map]; rfl
theorem count_nm (l : List (List Nat)) (k : List Nat) : (l.map nm).count (nm k) = l.count k := by
  induction l with
  | nil => rfl
  | cons a l ih => rw [List.map_cons, List.count_cons, List.count_cons, ih, nm_beq]; congr 1; by_cases h : a = k <;> simp [h]
theorem contains_nm (l : List (List Nat)) (k : List Nat) : (l.map nm).contains (nm k) = decide (k ∈ l) := by
  induction l with
  | nil => simp
  | cons a l ih => rw [List.map_cons, List.contains_cons, ih, nm_beq]; by_cases h : k = a <;> simp [h]
noncomputable def ofTup : D → D
  | .tuple (d :: _) => d
  | d => d
theorem fn_check_chunks {B : Bs} (st : Stat B) {cs : List Chunk} {flt : Bool} (hz : cs.length ≤ 1000000) (hz2 : ∀ c ∈ cs, c.2.length ≤ 1000000) (hok : flt = false → Chk cs) :
    FnP B "check_chunks" 1 flt [.list (cs.map chD)] (fun d => Chk cs ∧ d = .none) := by
  refine FnP.any (k := 20) (Δ := [("chunks", .list (cs.map chD))]) (ns := ["chunks"]) st (by rfl) (Binds.one (by decide) fun fd v hp h1 h2 => by obtain ⟨⟩ := fd; subst hp h1 h2; rfl) rfl (by decide +kernel) fun A L fa cd fr hfr => ?_
  have bad : ¬ Chk cs → ∃ l, fr = some l := fun h => hfr (by cases flt with | true => rfl | false => exact absurd (hok rfl) h)
  refine Ex.cons ?_
  refine Ex1.asgComp1 (cl := []) (Δin := []) (EvIter.data ?_) (by rfl) (.inl (by rfl)) (by rfl) trivial trivial (by rfl)
  refine Ev.name (by rfl) ?_
  refine ⟨_, rfl, fun L' => ?_⟩
  refine LastK.pure0 ofTup (by simp; (exact Nat.le_trans hz (Nat.le_add_left _ _))) (fun d hd => ?_) fun Δ' => ?_
  · obtain ⟨c, hc, rfl⟩ := List.mem_map.mp hd
    refine ⟨_, .pair _ _ _ _ _ _ _ _ (.inl (by rfl)) (.inl (by rfl)), fun Δ' r => ?_⟩
    refine Ev.name (by rfl) ?_
    exact ⟨rfl, rfl, rfl⟩
  rw [List.map_map, List.nil_append, show (cs.map (ofTup ∘ chD)) = (nms cs).map .str from by unfold nms; rw [List.map_map]; rfl]
  have hnl : (nms cs).length = cs.length := List.length_map ..
  refine Ex.cons ?_
  refine Ex1.ife ?_
  refine EvB.bop ?_
  refine EvAll.cons ?_
  refine EvB.cmp ?_ (by rfl)
  refine Ev.name (by rfl) ?_
  refine Ev.list ?_
  refine EvL.nil ?_
  refine ⟨rfl, by decide, Op.eqNil ⟨_, rfl, ?_⟩⟩
  refine ite_or (fun h => ite_t h ?_) fun h => ?_
  · obtain ⟨l, rfl⟩ := bad fun q => by
      obtain ⟨c, r, rfl, _⟩ := q.first; simp [nms] at h
    refine Ex.cons ?_
    refine Ex1.raise ?_ rfl
    refine Ev.kstr ?_
    trivial
  obtain ⟨c, r, rfl⟩ : ∃ c r, cs = c :: r := by
    cases cs with
    | nil => simp [nms] at h
    | cons c r => exact ⟨c, r, rfl⟩
  clear h
  refine EvAll.cons ?_
  refine EvB.cmp ?_ (by rfl)
  refine Ev.item ?_
  refine Ev.name (by rfl) ?_
  refine Ev.kint ?_
  refine ⟨_, rfl, by first | omega | (simp only [List.length_cons, List.length_nil, List.length_map, List.length_append]; (exact ob170 hnl hz)) | (simp; done) | decide, ?_⟩
  refine Ev.kstr ?_
  refine Op.nes ?_
  refine ⟨_, rfl, ?_⟩
  show if (nm c.1 != Str.ofString "IHDR") = (BoolOp.Or == BoolOp.And) then _ else _
  have cI : (Str.ofString "IHDR") = nm IHDR := by rfl
  have cE : (Str.ofString "IEND") = nm IEND := by rfl
  have cD : (Str.ofString "IDAT") = nm IDAT := by rfl
  rw [cI, nm_bne]
  refine ite_or (fun h => ite_t h ?_) fun h => ?_
  · obtain ⟨l, rfl⟩ := bad fun q => by
      obtain ⟨c', r', e, h1, _⟩ := q.first; cases e; simp [h1] at h
    refine Ex.cons ?_
    refine Ex1.raise ?_ rfl
    refine Ev.kstr ?_
    trivial
  have h1 : c.1 = IHDR := by simpa using h
  clear h
  obtain ⟨ce, re, hce⟩ : ∃ ce re, c :: r = re ++ [ce] := ⟨(c :: r).getLast (by simp), (c :: r).dropLast, (List.dropLast_concat_getLast (by simp)).symm⟩
  refine EvAll.cons ?_
  refine EvB.cmp ?_ (by rfl)
  refine Ev.item ?_
  refine Ev.name (by rfl) ?_
  refine Ev.neg ?_
  refine Ev.kint ?_
  refine ⟨_, rfl, ?_⟩
  have hlast : pyGet ((nms (c :: r)).map D.str) (-1) = some (.str (nm ce.1)) := by
    unfold pyGet
    rw [if_neg (by decide), List.length_map, hnl, if_pos (by simp; (exact ob171)), hce]
    have : (-1 + ((re ++ [ce]).length : Int)).toNat = re.length := by simp; (exact ob172)
    rw [this]
    unfold nms
    simp
  refine ⟨_, hlast, by rw [List.length_map, hnl]; (exact ob173 hz), ?_⟩
  refine Ev.kstr ?_
  refine Op.nes ?_
  refine ⟨_, rfl, ?_⟩
  rw [cE, nm_bne]
  refine ite_or (fun h => ite_t h ?_) fun h => ?_
  · obtain ⟨l, rfl⟩ := bad fun q => by
      obtain ⟨c', r', e, h1⟩ := q.last
      rw [hce] at e
      have := (List.append_inj' e rfl).2
      cases this
      simp [h1] at h
    refine Ex.cons ?_
    refine Ex1.raise ?_ rfl
    refine Ev.kstr ?_
    trivial
  have h2 : ce.1 = IEND := by simpa using h
  clear h
  refine EvAll.cons ?_
  refine EvB.cmp ?_ (by rfl)
  refine Ev.kstr ?_
  refine Ev.name (by rfl) ?_
  rw [cD]
  refine Op.notIn ⟨_, rfl, ?_⟩
  rw [nms_map, contains_nm]
  refine ite_or (fun h => ite_t h ?_) fun h => ?_
  · obtain ⟨l, rfl⟩ := bad fun q => by
      have := q.has; simp at h this; exact absurd this (by simpa using h)
    refine Ex.cons ?_
    refine Ex1.raise ?_ rfl
    refine Ev.kstr ?_
    trivial
  have h3 : IDAT ∈ (c :: r).map (·.1) := by simpa using h
  clear h
  refine EvAll.nil ?_
  refine ite_f rfl (Ex.nil ?_)
  refine Ex.cons ?_
  refine Ex1.ife (EvB.bop (EvAll.cons (EvB.cmp (Ev.count ?_) (by rfl))))
  refine Ev.name (by rfl) ?_
  rw [← nms_map]
  refine ⟨_, rfl, ?_⟩
  refine Ev.kstr ?_
  refine ⟨_, rfl, ?_⟩
  refine Ev.kint ?_
  refine Op.gt ?_
  refine ⟨_, rfl, ?_⟩
  rw [nms_map, count_nm]
  refine ite_or (fun h => ite_t h ?_) fun h => ?_
  · obtain ⟨l, rfl⟩ := bad fun q => by
      have := q.one; simp at h this; (exact ob174 this h)
    refine Ex.cons ?_
    refine Ex1.raise ?_ rfl
    refine Ev.kstr ?_
    trivial
  have h4 : ((c :: r).map (·.1)).count IHDR ≤ 1 := by simp at h ⊢; (exact ob175 h)
  clear h
  refine EvAll.cons (EvB.cmp (Ev.count ?_) (by rfl))
  refine Ev.name (by rfl) ?_
  rw [← nms_map]
  refine ⟨_, rfl, ?_⟩
  refine Ev.kstr ?_
  refine ⟨_, rfl, ?_⟩
  refine Ev.kint ?_
  refine Op.gt ?_
  refine ⟨_, rfl, ?_⟩
  rw [nms_map, count_nm]
  refine ite_or (fun h => ite_t h ?_) fun h => ?_
  · obtain ⟨l, rfl⟩ := bad fun q => by
      have := q.oneE; simp at h this; (exact ob174 this h)
    refine Ex.cons ?_
    refine Ex1.raise ?_ rfl
    refine Ev.kstr ?_
    trivial
  have h5 : ((c :: r).map (·.1)).count IEND ≤ 1 := by simp at h ⊢; (exact ob175 h)
  clear h
  refine EvAll.nil ?_
  refine ite_f rfl (Ex.nil ?_)
  refine Ex.cons ?_
  refine Ex1.ife ?_
  refine EvB.bop ?_
  refine EvAll.cons ?_
  refine EvB.cmp ?_ (by rfl)
  refine Ev.len ?_
  refine Ev.item ?_
  refine Ev.item ?_
  refine Ev.name (by rfl) ?_
  refine Ev.kint ?_
  have hcz := hz2 c (.head _)
  have hcl : ((c :: r).map chD).length < 2 ^ 60 := by rw [List.length_map]; (exact ob173 hz)
  have hI : (I c.2).length = c.2.length := I_len
  refine ⟨chD c, rfl, hcl, ?_⟩
  refine Ev.kint ?_
  refine ⟨.bytes (I c.2), rfl, by show 2 < _; decide, ?_⟩
  refine ⟨by (exact ob121 hI hcz), ?_⟩
  refine Ev.kint ?_
  refine Op.ne ?_
  refine ⟨_, rfl, ?_⟩
  refine ite_or (fun h => ite_t h ?_) fun h => ?_
  · obtain ⟨l, rfl⟩ := bad fun q => by
      obtain ⟨c', r', e, _, h1, _⟩ := q.first; cases e; rw [hI, h1] at h; simp at h
    refine Ex.cons ?_
    refine Ex1.raise ?_ rfl
    refine Ev.kstr ?_
    trivial
  have h6 : c.2.length = 13 := by rw [hI] at h; simp at h; (exact Int.ofNat.inj h)
  clear h
  refine EvAll.cons ?_
  refine EvB.cmp ?_ (by rfl)
  refine Ev.cut ?_
  refine Ev.item ?_
  refine Ev.item ?_
  refine Ev.name (by rfl) ?_
  refine Ev.kint ?_
  refine ⟨_, rfl, by first | omega | (simp only [List.length_cons, List.length_nil, List.length_map, List.length_append]; omega) | (simp; done) | decide, ?_⟩
  refine Ev.kint ?_
  refine ⟨.bytes (I c.2), rfl, by show 2 < _; decide, ?_⟩
  refine EvP.some ?_
  refine Ev.kint ?_
  refine ⟨_, rfl, ?_⟩
  refine EvP.none ?_
  refine ⟨by (exact ob176 hI h6), ?_⟩
  refine Ev.toBytes ?_
  refine Ev.list ?_
  refine EvL.cons ?_
  refine Ev.kint ?_
  refine EvL.cons ?_
  refine Ev.kint ?_
  refine EvL.cons ?_
  refine Ev.kint ?_
  refine EvL.cons ?_
  refine Ev.kint ?_
  refine EvL.cons ?_
  refine Ev.kint ?_
  refine EvL.nil ?_
  refine ⟨by rfl, by decide, ?_⟩
  refine ⟨[8, 6, 0, 0, 0], rfl, by decide, by decide, ?_⟩
  refine Op.neb ?_
  refine ⟨_, rfl, ?_⟩
  rw [sl_I, show sl c.2 (some 8) none = c.2.drop 8 from sl_from c.2 8]
  refine ite_or (fun h => ite_t h ?_) fun h => ?_
  · obtain ⟨l, rfl⟩ := bad fun q => by
      obtain ⟨c', r', e, _, _, h1⟩ := q.first; cases e; rw [h1] at h; exact absurd h (by decide)
    refine Ex.cons ?_
    refine Ex1.raise ?_ rfl
    refine Ev.kstr ?_
    trivial
  have h7 : c.2.drop 8 = [8, 6, 0, 0, 0] := by
    have : I (c.2.drop 8) = [8, 6, 0, 0, 0] := by simpa using h
    exact I_inj (this.trans rfl)
  clear h
  refine EvAll.nil ?_
  refine ite_f rfl (Ex.nil (Ex.nil ⟨⟨⟨c, r, rfl, h1, h6, h7⟩, ⟨ce, re, hce, h2⟩, h3, h4, h5⟩, rfl⟩))
/-! W10 -/
theorem pgo_oct : ∀ (n : Nat) {l : List Nat} {cs : List Chunk}, l.length ≤ n → Oct l → pgo l = some cs → (∀ c ∈ cs, Oct c.2 ∧ c.2.length ≤ l.length) ∧ cs.length ≤ l.length := by
  intro n
  induction n with
  | zero =>
    intro l cs hn ho h
    have : l = [] := List.length_eq_zero_iff.mp (by (exact ob177 hn))
    subst this
    rw [pgo_eq, if_pos rfl] at h; cases h
    exact ⟨fun c h => (nomatch h), by simp⟩
  | succ n ih =>
    intro l cs hn ho h
    by_cases hne : l = []
    · subst hne; rw [pgo_eq, if_pos rfl] at h; cases h
      exact ⟨fun c h => (nomatch h), by simp⟩
    have hp := List.length_pos_iff.mpr hne
    have hs := pgo_some (l := l) (by rw [h]; simp) hne
    have stp := pgo_step hne hs.1 rfl hs.2.1 rfl rfl rfl
    rw [stp] at h
    split at h
    · cases h
    · cases e : pgo (l.drop (12 + word l 0)) with
      | none => rw [e] at h; cases h
      | some r =>
        rw [e] at h; cases h
        have := ih (by rw [List.length_drop]; (exact ob178 hn)) (ho.drop _) e
        rw [List.length_drop] at this
        refine ⟨fun c hc => ?_, by rw [List.length_cons]; (exact ob179 this hs)⟩
        cases hc with
        | head => exact ⟨((ho.drop _).take _).drop _, by simp; (exact ob180)⟩
        | tail _ hc => exact ⟨(this.1 c hc).1, by have := (this.1 c hc).2; (exact ob181 this)⟩
theorem parse_oct {l : List Nat} {cs : List Chunk} (ho : Oct l) (h : parse l = some cs) : (∀ c ∈ cs, Oct c.2 ∧ c.2.length ≤ l.length) ∧ cs.length ≤ l.length := by
  unfold parse at h
  split at h
  · have := pgo_oct _ (Nat.le_refl _) (ho.drop 8) h
    rw [List.length_drop] at this
    exact ⟨fun c hc => ⟨(this.1 c hc).1, by have := (this.1 c hc).2; (exact ob182 this)⟩, by (exact ob183 this)⟩
  · cases h
noncomputable def idats (cs : List Chunk) : List Chunk := cs.filter fun c => decide (c.1 = IDAT)
noncomputable def idat (cs : List Chunk) : List Nat := ((idats cs).map (·.2)).flatten
noncomputable def c0 (cs : List Chunk) : List Nat := ((cs.head?).map (·.2)).getD []
noncomputable def rowN (data : List Nat) (w y : Nat) : List Nat := (data.drop (y * (1 + 4 * w) + 1)).take (4 * w)
noncomputable def rowD (r : List Nat) (w : Nat) : D := .list ((List.range w).map fun x => .tuple (N ((r.drop (4 * x)).take 4)))
noncomputable def rowsD (data : List Nat) (w h : Nat) : List D := (List.range h).map fun y => rowD (rowN data w y) w
structure Png (ns : List Nat) (cs : List Chunk) (w h : Nat) (data : List Nat) : Prop where
  pp : parse ns = some cs
  ck : Chk cs
  ww : word (c0 cs) 0 = w
  hh : word (c0 cs) 4 = h
  ii : idat cs = strm data
  ll : data.length = h * (1 + 4 * w)
  ff : ∀ y, y < h → data.getD (y * (1 + 4 * w)) 0 = 0
theorem idat_I (cs : List Chunk) : ((idats cs).map fun c => I c.2).flatten = I (idat cs) := by
  unfold idat I
  rw [List.map_flatten, List.map_map]; rfl
noncomputable def cutD (row : List Nat) : D → D
  | .int x => .tuple (N ((row.drop (4 * x.toNat)).take 4))
  | d => d
theorem cut_rng (row : List Nat) (w : Nat) : D.list ((rng 0 1 w).map (cutD row)) = rowD row w := by
  unfold rowD rng
  rw [List.map_map]
  refine congrArg D.list (List.map_congr_left fun x _ => ?_)
  simp [cutD]
set_option maxHeartbeats 4000000 in
theorem fn_read_png {B : Bs} (st : Stat B) {ns : List Nat} {flt : Bool} (ho : Oct ns) (hz : ns.length ≤ 1000000)
    (H : ∀ cs, parse ns = some cs → Chk cs → ∃ w h data, word (c0 cs) 0 = w ∧ word (c0 cs) 4 = h ∧ idat cs = strm data ∧ Oct data ∧ data.length < 65536 ∧ 1 ≤ w ∧ w ≤ 3 ∧ 1 ≤ h ∧ h ≤ 3 ∧ (flt = false → data.length = h * (1 + 4 * w)) ∧
      (data.length = h * (1 + 4 * w) → (∀ y, y < h → data.getD (y * (1 + 4 * w)) 0 = 0) ∨ flt = true ∧ data.getD 0 0 = 5))
    (hok : flt = false → ∃ cs, parse ns = some cs ∧ Chk cs) :
    FnC B "read_png" 7 flt [.bytes (I ns)] (fun d => ∃ cs w h data, Png ns cs w h data ∧ d = .tuple [.int (w : Nat), .int (h : Nat), .list (rowsD data w h)]) := by
  refine FnC.any (k := 21) (Δ := [("octets", .bytes (I ns))]) (ns := ["octets"]) st (by rfl) (Binds.one (by decide) fun fd v hp h1 h2 => by obtain ⟨⟩ := fd; subst hp h1 h2; rfl) rfl (by decide +kernel) fun A L fa cd fr hfr => ?_
  have some_fr : flt = true → (actF A 21 "read_png" L fa cd fr 6).fr.isSome = true := fun h => by obtain ⟨l, rfl⟩ := hfr h; rfl
  refine ExC.step (Ex1.assign (Ev.call (n := 5) (k := 19) (flt := flt) ?_ (hf := some_fr) (hn := Nat.le_of_ble_eq_true rfl)) (.inl (by rfl)))
  refine EvL.cons ?_
  refine Ev.name (by rfl) ?_
  refine EvL.nil ?_
  refine ⟨rfl, (fn_read_chunks st ho hz fun hf => ?_).mono fun d hd => ?_⟩
  · obtain ⟨cs, e, _⟩ := hok hf; rw [e]; simp
  obtain ⟨cs, hcs, rfl⟩ := hd
  have hoc := parse_oct ho hcs
  refine ExC.step (Ex1.expr (Ev.call (n := 1) (k := 20) (flt := flt) ?_ (hf := some_fr) (hn := Nat.le_of_ble_eq_true rfl)))
  refine EvL.cons ?_
  refine Ev.name (by rfl) ?_
  refine EvL.nil ?_
  refine ⟨rfl, (fn_check_chunks st (by (exact ob184 hoc hz)) (fun c hc => by have := (hoc.1 c hc).2; (exact Nat.le_trans this hz)) fun hf => ?_).mono fun d hd => ?_⟩
  · obtain ⟨cs', e, hk⟩ := hok hf; rw [e] at hcs; cases hcs; exact hk
  obtain ⟨hk, rfl⟩ := hd
  obtain ⟨w, h, data, hw, hh, hid, hod, hdz, hw1, hw3, hh1, hh3, hlen, hfil⟩ := H cs hcs hk
  obtain ⟨c, r, hcr, hc1, hc2, hc3⟩ := hk.first
  have hc0 : c0 cs = c.2 := by rw [hcr]; rfl
  rw [hc0] at hw hh
  have hcm : c ∈ cs := by rw [hcr]; exact .head _
  have hco := (hoc.1 c hcm).1
  have hpg : pyGet (cs.map chD) 0 = some (chD c) := by rw [hcr]; rfl
  have hcl : (cs.map chD).length < 2 ^ 60 := by rw [List.length_map]; (exact ob185 hoc hz)
  refine ExC.step (Ex1.asgTup (names := ["width", "height"]) ?_ (by rfl) (by intro x hx; simp at hx; rcases hx with rfl | rfl <;> exact .inl (by rfl)) (by decide))
  refine EvL.cons (Ev.call (n := 1) (k := 10) (flt := false) ?_ (hn := Nat.le_of_ble_eq_true rfl))
  refine EvL.cons ?_
  refine Ev.item ?_
  refine Ev.item ?_
  refine Ev.name (by rfl) ?_
  refine Ev.kint ?_
  refine ⟨chD c, hpg, hcl, ?_⟩
  refine Ev.kint ?_
  refine ⟨.bytes (I c.2), rfl, by show 2 < _; decide, ?_⟩
  refine EvL.cons ?_
  refine Ev.kint ?_
  refine EvL.nil ?_
  refine ⟨rfl, (fn_get32 st hco (by (exact ob186 hc2)) fun _ => by (exact ob187 hc2)).mono fun d hd => ?_⟩
  obtain ⟨_, _, rfl⟩ := hd
  refine EvL.cons (Ev.call (n := 1) (k := 10) (flt := false) ?_ (hn := Nat.le_of_ble_eq_true rfl))
  refine EvL.cons ?_
  refine Ev.item ?_
  refine Ev.item ?_
  refine Ev.name (by rfl) ?_
  refine Ev.kint ?_
  refine ⟨chD c, hpg, hcl, ?_⟩
  refine Ev.kint ?_
  refine ⟨.bytes (I c.2), rfl, by show 2 < _; decide, ?_⟩
  refine EvL.cons ?_
  refine Ev.kint ?_
  refine EvL.nil ?_
  refine ⟨rfl, (fn_get32 st hco (by (exact ob186 hc2)) fun _ => by (exact ob188 hc2)).mono fun d hd => ?_⟩
  obtain ⟨_, _, rfl⟩ := hd
  refine EvL.nil ⟨rfl, ?_⟩
  rw [show Int.toNat 0 = 0 from rfl, show Int.toNat 4 = 4 from rfl, hw, hh]
  have idc : ∀ c ∈ idats cs, c.2.length ≤ ns.length := fun c h => (hoc.1 c (List.mem_filter.mp h).1).2
  have hfl : ((idats cs).map fun c => I c.2).flatten = I (strm data) := by rw [idat_I, hid]
  have hsl := strm_len data
  refine ExC.cons (Ex1C.assign (EvC.call (n := 3) (k := 15) (flt := false) ?_ (hn := Nat.le_of_ble_eq_true rfl)) (.inl (by rfl)))
  refine EvL.cons (Ev.joinB ?_)
  refine Ev.kbyt ?_
  refine ⟨rfl, Ev.comp1 (cl := []) (Δin := []) (EvIter.data ?_) (by rfl) trivial trivial (by rfl)⟩
  refine Ev.name (by rfl) ?_
  refine ⟨_, rfl, fun L' => ?_⟩
  refine LastK.inv (σ := Unit) ["told", "name"] (fun _ _ => []) (fun _ _ => True) (fun j _ => (idats (cs.take j)).map fun c => .bytes (I c.2)) () trivial rfl rfl .refl (fun j _ hj _ => ?_) (fun j _ d hd _ => ?_) fun _ Δ _ _ => ?_
  · rw [List.length_map]
    have : (idats (cs.take j)).length ≤ (cs.take j).length := List.length_filter_le ..
    rw [List.length_take] at this
    (exact ob189 this hoc hz)
  · obtain ⟨c, hc, rfl⟩ : ∃ c, cs[j]? = some c ∧ d = chD c := by
      rw [List.getElem?_map] at hd
      cases e : cs[j]? with
      | none => rw [e] at hd; cases hd
      | some c => rw [e] at hd; cases hd; exact ⟨c, rfl, rfl⟩
    have ht : idats (cs.take (j + 1)) = idats (cs.take j) ++ if decide (c.1 = IDAT) then [c] else [] := by
      unfold idats; rw [List.take_add_one, hc, List.filter_append]; congr 1
      by_cases h : c.1 = IDAT <;> simp [h]
    refine ⟨_, .pair _ _ _ _ _ _ _ _ (.inl (by rfl)) (.inl (by rfl)), rfl, fun r => ?_⟩
    show EvB B _ _ _ _ _
    refine EvB.cmp ?_ (by rfl)
    refine Ev.name (by rfl) ?_
    refine Ev.kstr ?_
    refine Op.eqs ?_
    refine ⟨_, rfl, ?_⟩
    rw [show Str.ofString "IDAT" = nm IDAT from rfl, nm_beq]
    refine ite_dec (fun h => ?_) fun h => ?_
    · refine Ev.name (by rfl) ?_
      refine ⟨rfl, (), trivial, rfl, ?_⟩
      rw [ht, if_pos (decide_eq_true h), List.map_append]; rfl
    · refine ⟨(), trivial, rfl, ?_⟩
      rw [ht, if_neg (by simpa using h), List.append_nil]
  rw [List.length_map, List.take_length]
  refine ⟨(idats cs).map fun c => I c.2, by rw [List.map_map]; rfl, by rw [hfl, I_len]; (exact ob155 hsl hdz), ?_⟩
  rw [hfl]
  refine EvL.nil ⟨rfl, (fn_unstored st hod hdz).mono fun d hd => ?_⟩
  subst hd
  have hdl : (I data).length = data.length := I_len
  refine ExC.step ?_
  refine Ex1.ife ?_
  refine EvB.cmp ?_ (by rfl)
  refine Ev.len ?_
  refine Ev.name (by rfl) ?_
  refine ⟨by first | (exact ob190 hdl hdz) | (simp only [List.length_cons, List.length_nil, List.length_map, List.length_append]; omega) | (simp; done) | decide, ?_⟩
  refine Ev.binop ?_
  refine Ev.name (by rfl) ?_
  refine Ev.binop ?_
  refine Ev.kint ?_
  refine Ev.binop ?_
  refine Ev.gint (by rfl) ?_
  refine Ev.name (by rfl) ?_
  refine Op.mul (mulSmall (by (exact Nat.le_add_left _ _)) (by (exact ob191 hw3))) ?_
  refine Op.add ?_
  refine Op.mul (mulSmall (by (exact ob191 hh3)) (by (exact ob192 hw3))) ?_
  refine Op.ne ?_
  refine ⟨_, rfl, ?_⟩
  have hLI : ((I data).length : Int) = (h : Int) * (1 + 4 * (w : Int)) ↔ data.length = h * (1 + 4 * w) := by
    rw [hdl]
    have : (h : Int) * (1 + 4 * (w : Int)) = ((h * (1 + 4 * w) : Nat) : Int) := by simp
    rw [this]; exact Int.ofNat_inj
  refine ite_bne (fun hne => ?_) fun heq => ?_
  · obtain ⟨l, rfl⟩ : ∃ l, fr = some l := hfr (by cases flt with | true => rfl | false => exact absurd (hLI.mpr (hlen rfl)) hne)
    refine Ex.cons ?_
    refine Ex1.raise ?_ rfl
    refine Ev.kstr ?_
    trivial
  have hL := hLI.mp heq
  refine Ex.nil ?_
  generalize hm : 1 + 4 * w = m at *
  have unf : ∀ j x, j < h → x.length = 4 * w → (j = 0 ∨ ∀ y, y < h → data.getD (y * m) 0 = 0) → FnC B "unfiltered" 3 flt [.int (data.getD (j * m) 0 : Nat), .bytes (I (rowN data w j)), .bytes (I x), .int 4] (fun d => d = .bytes (I (rowN data w j)) ∧ ∀ y, y < h → data.getD (y * m) 0 = 0) := by
    intro j x hj hx hc
    have hjm : j * m + m ≤ h * m := by rw [← Nat.succ_mul]; exact Nat.mul_le_mul_right _ hj
    have hrl : (rowN data w j).length = 4 * w := by unfold rowN; rw [hm, List.length_take, List.length_drop]; (exact ob193 hL hm hjm)
    have hro : Oct (rowN data w j) := (hod.drop _).take _
    rcases hfil hL with hz | ⟨rfl, h5⟩
    · rw [hz j hj]
      exact (fn_unfiltered0 st hro (by (exact ob194 hrl hm hjm hL hdz)) (by (exact ob194 hx hm hjm hL hdz)) (by (exact ob195 hrl hx))).mono fun d hd => ⟨hd, hz⟩
    · rcases hc with rfl | hz
      · rw [Nat.zero_mul, h5]
        exact (fn_unfiltered5 st (by (exact ob196 hrl hm hjm hL hdz)) (by (exact ob196 hx hm hjm hL hdz)) (by (exact ob197 hrl hw1)) (by (exact ob197 hx hw1))).mono fun d hd => hd.elim
      · rw [hz j hj]
        exact (fn_unfiltered0 st hro (by (exact ob194 hrl hm hjm hL hdz)) (by (exact ob194 hx hm hjm hL hdz)) (by (exact ob195 hrl hx))).mono fun d hd => ⟨hd, hz⟩
  refine ExC.step (Ex1.asgTup (names := ["rows", "above"]) ?_ (by rfl) (by intro x hx; simp at hx; rcases hx with rfl | rfl <;> exact .inl (by rfl)) (by decide))
  refine EvL.cons (Ev.listM (EvL.nil ⟨rfl, by decide, ?_⟩))
  refine EvL.cons ?_
  refine Ev.toBytes ?_
  refine Ev.binop ?_
  refine Ev.gint (by rfl) ?_
  refine Ev.name (by rfl) ?_
  refine Op.mul (mulSmall (by (exact Nat.le_add_left _ _)) (by (exact ob191 hw3))) ?_
  refine ⟨by (exact Int.natCast_nonneg _), by (exact ob198 hw3), ?_⟩
  have er : List.replicate (4 * (w : Int)).toNat (0 : Int) = I (List.replicate (4 * w) 0) := by
    unfold I; rw [List.map_replicate]; congr 1
  rw [er]
  refine EvL.nil ⟨rfl, ?_⟩
  refine ExC.cons (Ex1C.for_ (EvIter.range (Ev.name (by rfl) ⟨_, rfl, by (exact Int.natCast_nonneg _), by (exact ob199 hh3), ?_⟩)))
  rw [Int.toNat_natCast]
  refine ForKC.inv (σ := List Nat) (fun j x => [("above", .bytes (I x)), ("rows", .obj 0), ("data", .bytes (I data)), ("width", .int (w : Nat)), ("height", .int (h : Nat))]) (fun j _ => [.list ((List.range j).map fun y => rowD (rowN data w y) w)])
    (fun j x => x.length = 4 * w ∧ (j = 0 ∨ ∀ y, y < h → data.getD (y * m) 0 = 0)) (List.replicate (4 * w) 0) ⟨by simp, .inl rfl⟩ (.cons (by rfl) (.cons (by rfl) (.cons (by rfl) (.cons (by rfl) (.cons (by rfl) .nil))))) rfl (fun j x d hj hx => ?_) fun x Δ hx hs => ?_
  · obtain ⟨hj', rfl⟩ := rng_get hj
    obtain ⟨hx, hc⟩ := hx
    refine ⟨_, .name _ _ _ (.inl (by rfl)), fun r => ?_⟩
    refine ExC.step ?_
    refine Ex1.assign ?_ (.inl (by rfl))
    refine Ev.binop ?_
    refine Ev.name (by rfl) ?_
    refine Ev.binop ?_
    refine Ev.kint ?_
    refine Ev.binop ?_
    refine Ev.gint (by rfl) ?_
    refine Ev.name (by rfl) ?_
    refine Op.mul (mulSmall (by (exact Nat.le_add_left _ _)) (by (exact ob191 hw3))) ?_
    refine Op.add ?_
    refine Op.mul (mulSmall (by (exact ob200 hj' hh3)) (by (exact ob192 hw3))) ?_
    have eb : (j : Int) * (1 + 4 * (w : Int)) = ((j * m : Nat) : Int) := by rw [← hm]; simp
    rw [eb]
    have hjm : j * m + m ≤ h * m := by rw [← Nat.succ_mul]; exact Nat.mul_le_mul_right _ hj'
    refine ExC.cons (Ex1C.assign (EvC.call (n := 3) (k := 7) (flt := flt) ?_ (hf := some_fr) (hn := Nat.le_of_ble_eq_true rfl)) (.inr ⟨by rfl, _, .head _, by rfl⟩))
    refine EvL.cons ?_
    refine Ev.item ?_
    refine Ev.name (by rfl) ?_
    refine Ev.name (by rfl) ?_
    refine ⟨_, I_getD (k := j * m) (by (exact ob201 hm hjm hL)), by (exact Int.natCast_nonneg _), by (exact ob202 hdl hdz), ?_⟩
    refine EvL.cons ?_
    refine Ev.cut ?_
    refine Ev.name (by rfl) ?_
    refine EvP.some ?_
    refine Ev.binop ?_
    refine Ev.name (by rfl) ?_
    refine Ev.kint ?_
    refine Op.add ?_
    refine ⟨_, rfl, ?_⟩
    refine EvP.some ?_
    refine Ev.binop ?_
    refine Ev.binop ?_
    refine Ev.name (by rfl) ?_
    refine Ev.kint ?_
    refine Op.add ?_
    refine Ev.binop ?_
    refine Ev.gint (by rfl) ?_
    refine Ev.name (by rfl) ?_
    refine Op.mul (mulSmall (by (exact Nat.le_add_left _ _)) (by (exact ob191 hw3))) ?_
    refine Op.add ?_
    refine ⟨_, rfl, ?_⟩
    refine ⟨by first | (exact ob203 hdl hdz) | (simp only [List.length_cons, List.length_nil, List.length_map, List.length_append]; omega) | (simp; done) | decide, ?_⟩
    refine EvL.cons ?_
    refine Ev.name (by rfl) ?_
    refine EvL.cons ?_
    refine Ev.gint (by rfl) ?_
    refine EvL.nil ?_
    have eb1 : ((j * m : Nat) : Int) + 1 = ((j * m + 1 : Nat) : Int) := rfl
    have eb2 : ((j * m : Nat) : Int) + 1 + 4 * (w : Int) = ((j * m + 1 + 4 * w : Nat) : Int) := by simp
    rw [eb2, eb1, sl_I, sl_nat, show j * m + 1 + 4 * w - (j * m + 1) = 4 * w by (exact ob204)]
    have erow : (data.drop (j * m + 1)).take (4 * w) = rowN data w j := by unfold rowN; rw [hm]
    rw [erow]
    refine ⟨rfl, (unf j x hj' hx hc).mono fun d hd => ?_⟩
    obtain ⟨rfl, hz⟩ := hd
    generalize hrw : rowN data w j = row
    have hrl : row.length = 4 * w := by rw [← hrw]; unfold rowN; rw [hm, List.length_take, List.length_drop]; (exact ob193 hL hm hjm)
    refine ExC.step (Ex1.expr (Ev.append ?_))
    refine Ev.name (by rfl) ?_
    refine ⟨0, _, rfl, rfl, ?_⟩
    refine Ev.comp1 (cl := [("row", L + 1)]) (Δin := [("row", .bytes (I row))]) (EvIter.range ?_) (by rfl) ⟨⟨by rfl, by rfl, by rfl, by rfl⟩, trivial⟩ ⟨by rfl, trivial⟩ (by rfl)
    refine Ev.name (by rfl) ⟨_, rfl, by (exact Int.natCast_nonneg _), by (exact ob199 hw3), fun L' => ?_⟩
    rw [Int.toNat_natCast]
    refine LastK.pure (nms := ["x"]) (cutD row) (by rw [rng_len]; simp; (exact Nat.le_trans hw3 (Nat.le_add_left _ _))) .refl (fun d hd => ?_) fun Δ' _ => ?_
    · obtain ⟨k, hk⟩ := List.getElem?_of_mem hd
      obtain ⟨hk', rfl⟩ := rng_get hk
      refine ⟨_, .name _ _ _ (.inl (by rfl)), rfl, fun r => ?_⟩
      refine Ev.toTuple ?_
      refine Ev.cut ?_
      refine Ev.name (by rfl) ?_
      refine EvP.some ?_
      refine Ev.binop ?_
      refine Ev.gint (by rfl) ?_
      refine Ev.name (by rfl) ?_
      refine Op.mul (mulSmall (by (exact Nat.le_add_left _ _)) (by (exact ob205 hk' hm hjm hL hdz))) ?_
      refine ⟨_, rfl, ?_⟩
      refine EvP.some ?_
      refine Ev.binop ?_
      refine Ev.binop ?_
      refine Ev.gint (by rfl) ?_
      refine Ev.name (by rfl) ?_
      refine Op.mul (mulSmall (by (exact Nat.le_add_left _ _)) (by (exact ob205 hk' hm hjm hL hdz))) ?_
      refine Ev.gint (by rfl) ?_
      refine Op.add ?_
      refine ⟨_, rfl, ?_⟩
      refine ⟨by rw [I_len]; (exact ob206 hrl hm hjm hL hdz), ?_⟩
      have e1 : 4 * (k : Int) = ((4 * k : Nat) : Int) := by simp
      have e2 : 4 * (k : Int) + 4 = ((4 * k + 4 : Nat) : Int) := by simp
      rw [e2, e1, sl_I, sl_nat, show 4 * k + 4 - 4 * k = 4 by (exact ob207)]
      refine ⟨by rw [I_len, List.length_take]; (exact ob133), rfl, ?_, rfl⟩
      rw [I_N]; simp [cutD]
    rw [List.nil_append, cut_rng]
    refine ⟨_, rfl, rfl, by simp; (exact ob208 hj' hh3), ?_⟩
    refine ExC.step ?_
    refine Ex1.assign ?_ (.inl (by rfl))
    refine Ev.name (by rfl) ?_
    refine ExC.nil ⟨row, ⟨hrl, .inr hz⟩, .cons (by rfl) (.cons (by rfl) (.cons (by rfl) (.cons (by rfl) (.cons (by rfl) .nil)))), ?_⟩
    rw [List.range_succ, List.map_append, List.map_singleton, hrw]; rfl
  · obtain ⟨_, hc⟩ := hx
    rw [rng_len] at hc ⊢
    have hz := hc.resolve_left (by (exact Nat.ne_of_gt hh1))
    refine ExC.weak ?_ hs
    refine ExC.step (Ex1.ret (Ev.tuple ?_))
    refine EvL.cons (Ev.name (by rfl) (EvL.cons (Ev.name (by rfl) (EvL.cons (Ev.freeze (by rfl) (by rfl) (EvL.nil ?_))))))
    exact ⟨by rfl, by show 3 ≤ 16777216; decide, rfl, cs, w, h, data, ⟨hcs, hk, by rw [hc0]; exact hw, by rw [hc0]; exact hh, hid, by rw [hm]; exact hL, by rw [hm]; exact hz⟩, rfl⟩
/-! W11 -/
noncomputable def SrcM (m : MO) : Prop := ∃ a b, m = src a b ∧ SrcOk a b
theorem take_ok {B : Bs} (st : Stat B) {m : MO} {top : Int} (h : SrcM m) (h0 : 0 < top) (h1 : top ≤ 300) : FnS B "_law_take" 1 m [.int top] (fun d m' => SrcM m' ∧ ∃ r : Nat, d = .int (r : Nat) ∧ (r : Int) < top) := by
  obtain ⟨a, b, rfl, hs⟩ := h
  exact (fn_take st hs h0 h1).mono fun d m' ⟨r, a', b', hd, hr, ht, hm, hs'⟩ => ⟨⟨a', b', hm, hs'⟩, r.toNat, by rw [Int.toNat_of_nonneg hr]; exact hd, by rw [Int.toNat_of_nonneg hr]; exact ht⟩
theorem SrcM.live {m : MO} (h : SrcM m) : m.live = true := by obtain ⟨a, b, rfl, _⟩ := h; rfl
theorem fn_pool {B : Bs} (st : Stat B) {ns : List Int} (hl : ns.length ≤ 63) (hb : ∀ n ∈ ns, Builtin.Int.intBits n ≤ 1048576) : FnM B "_law_pool" 1 [.list (ns.map .int)] SrcM := by
  refine FnM.of (k := 23) (Δ := [("script", .list (ns.map .int))]) (ns := ["script"]) st (by rfl) (Binds.one (by decide) fun fd v hp h1 h2 => by obtain ⟨⟩ := fd; subst hp h1 h2; rfl) rfl (by decide +kernel) fun A L fa cd => ?_
  have hnl : (ns.map D.int).length = ns.length := List.length_map ..
  refine Ex.cons (Ex1.assign (Ev.mono (K' := fun d μ1 => ∃ c : Int, d = .int c ∧ Builtin.Int.intBits c ≤ 1048576 ∧ μ1 = []) ?_ ?_) (.inl (by rfl)))
  · refine Ev.ifexp ?_
    refine EvB.cmp ?_ (by rfl)
    refine Ev.len ?_
    refine Ev.name (by rfl) ?_
    refine ⟨by first | (exact ob209 hnl hl) | (simp only [List.length_cons, List.length_nil, List.length_map, List.length_append]; omega) | (simp; done) | decide, ?_⟩
    refine Ev.kint ?_
    refine Op.gt ?_
    refine ⟨_, rfl, ?_⟩
    refine ite_dec (fun h => ?_) fun h => ?_
    · obtain ⟨c, r, rfl⟩ : ∃ c r, ns = c :: r := by
        cases ns with
        | nil => simp at h
        | cons c r => exact ⟨c, r, rfl⟩
      refine Ev.item ?_
      refine Ev.name (by rfl) ?_
      refine Ev.kint ?_
      refine ⟨_, rfl, by first | (exact ob210 hnl hl) | (simp only [List.length_cons, List.length_nil, List.length_map, List.length_append]; omega) | (simp; done) | decide, ?_⟩
      refine ⟨_, rfl, ?_⟩
      exact ⟨hb c (.head _), rfl⟩
    · refine Ev.kint ?_
      refine ⟨_, rfl, ?_⟩
      exact ⟨by decide, rfl⟩
  rintro d μ1 ⟨c, rfl, hc, rfl⟩
  refine Ex.cons (Ex1.assign (Ev.mono (K' := fun d μ1 => ∃ x : Int, d = .int x ∧ 0 ≤ x ∧ Builtin.Int.intBits x ≤ 1048577 ∧ μ1 = []) ?_ ?_) (.inl (by rfl)))
  · refine Ev.max2 ?_
    refine Ev.toInt ?_
    refine Ev.name (by rfl) ?_
    refine .inl ⟨_, rfl, ?_⟩
    refine ⟨_, rfl, ?_⟩
    refine Ev.toInt ?_
    refine Ev.binop ?_
    refine Ev.neg ?_
    refine Ev.kint ?_
    refine ⟨_, rfl, ?_⟩
    refine Ev.name (by rfl) ?_
    refine Op.sub ?_
    refine .inl ⟨_, rfl, ?_⟩
    refine ⟨_, rfl, ?_⟩
    refine ⟨_, rfl, ?_⟩
    refine ⟨?_, ?_, rfl⟩
    · split <;> omega
    · have := intBits_ite_le (c := -1 - c > c) (x := -1 - c) (y := c) (intBits_sub_le (x := -1) (m := 1) (by decide) hc) hc
      (exact this)
  rintro d μ1 ⟨x, rfl, hx0, hxb, rfl⟩
  refine Ex.cons (Ex1.ret ?_)
  refine Ev.listM ?_
  refine EvL.cons ?_
  refine Ev.binop ?_
  refine Ev.name (by rfl) ?_
  refine Ev.toInt ?_
  refine Ev.cmp ?_ (by rfl)
  refine Ev.name (by rfl) ?_
  refine Ev.binop ?_
  refine Ev.kint ?_
  refine Ev.kint ?_
  refine Op.pow (by (exact Int.natCast_nonneg _)) (by (exact Int.natCast_nonneg _)) (by (exact Nat.le_add_left _ _)) ?_
  refine Op.ge ?_
  refine .inr ⟨_, rfl, ?_⟩
  have e0 := Int.emod_nonneg x (show (2147483629 : Int) ≠ 0 by decide)
  have e1 := Int.emod_lt_of_pos x (show (0 : Int) < 2147483629 by decide)
  refine Op.mul (IntMulOk.of_right (bits_small ?_)) ?_
  · split <;> decide
  refine EvL.cons ?_
  refine Ev.binop ?_
  refine Ev.toInt ?_
  refine Ev.binop ?_
  refine Ev.binop ?_
  refine Ev.binop ?_
  refine Ev.name (by rfl) ?_
  refine Ev.kint ?_
  refine Op.mod (by (exact Int.natCast_nonneg _)) ?_
  refine Ev.kint ?_
  refine Op.add ?_
  refine Ev.kint ?_
  refine Op.mul (mulSmall (by (exact ob211)) (by (exact Nat.le_add_left _ _))) ?_
  refine .inl ⟨_, rfl, ?_⟩
  refine Ev.kint ?_
  refine Op.mod (by (exact Int.natCast_nonneg _)) ?_
  refine EvL.nil ?_
  have f0 := Int.emod_nonneg ((x % 2147483629 + 17) * 48271) (show (2147483647 : Int) ≠ 0 by decide)
  have f1 := Int.emod_lt_of_pos ((x % 2147483629 + 17) * 48271) (show (0 : Int) < 2147483647 by decide)
  refine ⟨rfl, by show 2 ≤ 16777216; decide, 0, _, rfl, rfl, rfl, _, _, rfl, ?_, ?_, f0, by (exact ob212)⟩
  · split <;> omega
  · split
    · rw [Int.mul_one]; (exact Nat.le_trans hxb (Nat.le_add_left _ _))
    · rw [Int.mul_zero]; decide
noncomputable def fourD (n : Nat) : D → D
  | .int k => .int ((n : Int) / 256 ^ k.toNat % 256)
  | d => d
theorem fn_four {B : Bs} (st : Stat B) {n : Nat} {flt : Bool} : FnP B "_law_four" 1 flt [.int (n : Nat)] (fun d => d = .list (N (four n))) := by
  refine FnP.any (k := 26) (Δ := [("number", .int (n : Nat))]) (ns := ["number"]) st (by rfl) (Binds.one (by decide) fun fd v hp h1 h2 => by obtain ⟨⟩ := fd; subst hp h1 h2; rfl) rfl (by decide +kernel) fun A L fa cd fr hfr => ?_
  refine Ex.cons (Ex1.ret (Ev.comp1 (cl := [("number", L + 1)]) (Δin := [("number", .int (n : Nat))]) (EvIter.data ?_) (by rfl) ⟨⟨by rfl, by rfl, by rfl, by rfl⟩, trivial⟩ ⟨by rfl, trivial⟩ (by rfl)))
  refine Ev.list ?_
  refine EvL.cons ?_
  refine Ev.kint ?_
  refine EvL.cons ?_
  refine Ev.kint ?_
  refine EvL.cons ?_
  refine Ev.kint ?_
  refine EvL.cons ?_
  refine Ev.kint ?_
  refine EvL.nil ?_
  refine ⟨rfl, by decide, ?_⟩
  refine ⟨_, rfl, fun L' => ?_⟩
  refine LastK.pure (nms := ["k"]) (fourD n) (by decide) .refl (fun d hd => ?_) fun Δ' _ => ?_
  · have hd : ∃ k : Nat, k < 4 ∧ d = .int (k : Nat) := by
      simp at hd
      rcases hd with rfl | rfl | rfl | rfl
      · exact ⟨3, by decide, rfl⟩
      · exact ⟨2, by decide, rfl⟩
      · exact ⟨1, by decide, rfl⟩
      · exact ⟨0, by decide, rfl⟩
    obtain ⟨k, hk, rfl⟩ := hd
    refine ⟨_, .name _ _ _ (.inl (by rfl)), rfl, fun r => ?_⟩
    refine Ev.binop ?_
    refine Ev.binop ?_
    refine Ev.name (by rfl) ?_
    refine Ev.binop ?_
    refine Ev.kint ?_
    refine Ev.name (by rfl) ?_
    refine Op.pow (by (exact Int.natCast_nonneg _)) (by (exact ob213 hk)) (by (exact Nat.le_add_left _ _)) ?_
    have : k = 0 ∨ k = 1 ∨ k = 2 ∨ k = 3 := by (exact ob214 hk)
    refine Op.floordiv (by rcases this with rfl | rfl | rfl | rfl <;> decide) (by rcases this with rfl | rfl | rfl | rfl <;> decide) ?_
    refine Ev.kint ?_
    refine Op.mod (by (exact Int.natCast_nonneg _)) ?_
    exact ⟨rfl, rfl, rfl⟩
  refine ⟨rfl, ?_⟩
  have e3 : ((n : Int) / (256 ^ Int.toNat 3) % 256) = ((n / 16777216 % 256 : Nat) : Int) := by rw [show (256 : Int) ^ Int.toNat 3 = 16777216 from rfl]; (exact ob215)
  have e2 : ((n : Int) / (256 ^ Int.toNat 2) % 256) = ((n / 65536 % 256 : Nat) : Int) := by rw [show (256 : Int) ^ Int.toNat 2 = 65536 from rfl]; (exact ob216)
  have e1 : ((n : Int) / (256 ^ Int.toNat 1) % 256) = ((n / 256 % 256 : Nat) : Int) := by rw [show (256 : Int) ^ Int.toNat 1 = 256 from rfl]; (rfl)
  have e0 : ((n : Int) / (256 ^ Int.toNat 0) % 256) = ((n % 256 : Nat) : Int) := by rw [show (256 : Int) ^ Int.toNat 0 = 1 from rfl]; (exact ob217)
  show D.list [.int _, .int _, .int _, .int _] = .list [.int _, .int _, .int _, .int _]
  rw [e3, e2, e1, e0]
theorem crcN_app (a b : List Nat) : (a ++ b).foldl crcOct 4294967295 = b.foldl crcOct (a.foldl crcOct 4294967295) := List.foldl_append ..
theorem fn_check {B : Bs} (st : Stat B) {l : List Nat} {flt : Bool} (ho : Oct l) : FnP B "_law_check" 1 flt [.list (N l)] (fun d => d = .int (crcN l : Nat)) := by
  refine FnP.any (k := 27) (Δ := [("octets", .list (N l))]) (ns := ["octets"]) st (by rfl) (Binds.one (by decide) fun fd v hp h1 h2 => by obtain ⟨⟩ := fd; subst hp h1 h2; rfl) rfl (by decide +kernel) fun A L fa cd fr hfr => ?_
  refine Ex.cons ?_
  refine Ex1.assign ?_ (.inl (by rfl))
  refine Ev.binop ?_
  refine Ev.binop ?_
  refine Ev.kint ?_
  refine Ev.kint ?_
  refine Op.pow (by (exact Int.natCast_nonneg _)) (by (exact Int.natCast_nonneg _)) (by (exact Nat.le_add_left _ _)) ?_
  refine Ev.kint ?_
  refine Op.sub ?_
  refine Ex.cons ?_
  refine Ex1.for_ (EvIter.data ?_)
  refine Ev.name (by rfl) ?_
  refine ⟨_, rfl, ?_⟩
  refine ForK.inv (σ := Unit) (fun j _ => [("rest", .int ((l.take j).foldl crcOct 4294967295 : Nat))]) (fun j _ => []) (fun _ _ => True) () trivial (.cons (by rfl) .nil) rfl (fun j _ d hj _ => ?_) fun _ Δ _ hs => ?_
  · obtain ⟨n, hn, rfl⟩ := N_get hj
    have hn8 := ho n (List.mem_of_getElem? hn)
    refine ⟨_, .name _ _ _ (.inl (by rfl)), fun r => ?_⟩
    generalize hx : (l.take j).foldl crcOct 4294967295 = x
    have hx' : (l.take (j + 1)).foldl crcOct 4294967295 = lsteps n 8 x := by rw [take_fold _ _ hn, hx, lsteps_oct n x hn8]
    rw [hx']
    refine Ex.cons ?_
    refine Ex1.for_ (EvIter.range (Ev.kint ⟨8, rfl, by decide, by decide, ?_⟩))
    refine ForK.inv (σ := Unit) (fun i _ => [("rest", .int (lsteps n i x : Nat)), ("octet", .int (n : Nat))]) (fun i _ => []) (fun _ _ => True) () trivial (.cons (by rfl) (.cons (by rfl) .nil)) rfl (fun i _ d hi _ => ?_) fun _ Δ _ hs => ?_
    · obtain ⟨hi', rfl⟩ := rng_get hi
      refine ⟨_, .name _ _ _ (.inl (by rfl)), fun r => ?_⟩
      refine Ex.cons ?_
      refine Ex1.assign ?_ (.inl (by rfl))
      refine Ev.cmp ?_ (by rfl)
      refine Ev.binop ?_
      refine Ev.binop ?_
      refine Ev.name (by rfl) ?_
      refine Ev.binop ?_
      refine Ev.name (by rfl) ?_
      refine Ev.binop ?_
      refine Ev.kint ?_
      refine Ev.name (by rfl) ?_
      refine Op.pow (by (exact Int.natCast_nonneg _)) (by (exact ob218 hi')) (by (grind)) ?_
      have hp : (2 : Int) ^ Int.toNat (i : Nat) = ((2 ^ i : Nat) : Int) := by rw [Int.toNat_natCast]; simp
      have hp1 : 2 ^ i ≤ 2 ^ 7 := Nat.pow_le_pow_right (by decide) (by (exact Nat.le_of_lt_succ hi'))
      have hp0 : 0 < 2 ^ i := Nat.two_pow_pos i
      rw [hp]
      refine Op.floordiv (by (exact ob219 hp0)) (by (exact ob220 hp1)) ?_
      rw [← Int.natCast_ediv]
      refine Op.add ?_
      refine Ev.kint ?_
      refine Op.mod (by (exact Int.natCast_nonneg _)) ?_
      refine Ev.kint ?_
      refine Op.eq ?_
      refine Ex.cons ?_
      refine Ex1.assign ?_ (.inl (by rfl))
      refine Ev.binop ?_
      refine Ev.binop ?_
      refine Ev.name (by rfl) ?_
      refine Ev.kint ?_
      refine Op.floordiv (by (exact Int.natCast_nonneg _)) (by (exact Int.natCast_nonneg _)) ?_
      refine Ev.ifexp ?_
      refine EvB.plain (Ev.name (by rfl) ⟨_, rfl, ?_⟩)
      have e2 : ((lsteps n i x : Nat) : Int) / 2 = ((lsteps n i x / 2 : Nat) : Int) := by simp
      rw [e2]
      refine ite_beq (fun h => ?_) fun h => ?_
      · refine Ev.kint ?_
        refine Op.xor ?_
        refine Ex.nil ⟨(), trivial, .cons ?_ (.cons (by rfl) .nil), rfl⟩
        have h' : (lsteps n i x + n / 2 ^ i) % 2 = 1 := by (exact ob221 h)
        show some _ = some _
        rw [show (3988292384 : Int) = ((3988292384 : Nat) : Int) from rfl, bitXor_nat]
        simp only [lsteps, lstep, h', if_true, crcP]
      · refine Ev.kint ?_
        refine Op.xor ?_
        refine Ex.nil ⟨(), trivial, .cons ?_ (.cons (by rfl) .nil), rfl⟩
        have h' : ¬ (lsteps n i x + n / 2 ^ i) % 2 = 1 := by (exact ob222 h)
        show some _ = some _
        rw [show (0 : Int) = ((0 : Nat) : Int) from rfl, bitXor_nat]
        simp only [lsteps, lstep, h', if_false, Nat.xor_zero]
    · rw [rng_len] at *
      refine Ex.weak ?_ hs
      exact Ex.nil ⟨(), trivial, .cons (by rfl) .nil, rfl⟩
  · rw [N_len, List.take_length] at hs
    refine Ex.weak ?_ hs
    refine Ex.cons ?_
    refine Ex1.ret ?_
    refine Ev.binop ?_
    refine Ev.name (by rfl) ?_
    refine Ev.binop ?_
    refine Ev.binop ?_
    refine Ev.kint ?_
    refine Ev.kint ?_
    refine Op.pow (by (grind)) (by (grind)) (by (grind)) ?_
    refine Ev.kint ?_
    refine Op.sub ?_
    refine Op.xor ?_
    refine ⟨rfl, ?_⟩
    rw [show ((2 : Int) ^ Int.toNat 32 - 1) = ((4294967295 : Nat) : Int) from rfl, bitXor_nat]
    rfl
noncomputable def chunkN (c : Chunk) : List Nat := four c.2.length ++ (c.1 ++ c.2) ++ four (crcN (c.1 ++ c.2))
theorem chars_nm (a : List Nat) : chars (nm a) = a.map fun c => .str ⟨#[c]⟩ := by unfold chars nm; rfl
noncomputable def ordD : D → D
  | .str x => .int ((x.cps.getD 0 0 : Nat) : Int)
  | d => d
theorem fn_chunk {B : Bs} (st : Stat B) {a l : List Nat} {flt : Bool} (ha : ∀ o ∈ a, o < 128) (ho : Oct l) (hza : a.length ≤ 100) (hz : l.length ≤ 100000) :
    FnP B "_law_chunk" 3 flt [.str (nm a), .list (N l)] (fun d => d = .list (N (chunkN (a, l)))) := by
  refine FnP.any (k := 28) (Δ := [("name", .str (nm a)), ("octets", .list (N l))]) (ns := ["name", "octets"]) st (by rfl) (Binds.two (by decide) fun fd v w hp h1 h2 => by obtain ⟨⟩ := fd; subst hp h1 h2; rfl) rfl (by decide +kernel) fun A L fa cd fr hfr => ?_
  refine Ex.cons (Ex1.assign (Ev.binop ?_) (.inl (by rfl)))
  refine Ev.comp1 (cl := []) (Δin := []) (EvIter.data ?_) (by rfl) trivial trivial (by rfl)
  refine Ev.name (by rfl) ?_
  refine ⟨_, ⟨rfl, by simpa [nm] using ha⟩, fun L' => ?_⟩
  rw [chars_nm]
  refine LastK.pure0 ordD (by simp; (exact Nat.le_trans hza (Nat.le_add_left _ _))) (fun d hd => ?_) fun Δ' => ?_
  · obtain ⟨c, hc, rfl⟩ := List.mem_map.mp hd
    refine ⟨_, .name _ _ _ (.inl (by rfl)), fun Δ' r => ?_⟩
    refine Ev.ord ?_
    refine Ev.name (by rfl) ?_
    exact ⟨c, rfl, rfl, rfl, rfl⟩
  have e : (a.map fun c => D.str ⟨#[c]⟩).map ordD = N a := by rw [List.map_map]; rfl
  rw [List.nil_append, e]
  refine Ev.toList ?_
  refine Ev.name (by rfl) ?_
  refine ⟨by rw [N_len]; (exact Nat.le_trans hz (Nat.le_add_left _ _)), ?_⟩
  refine Op.addl (by rw [N_len, N_len]; (exact ob223 hza hz)) ?_
  rw [← N_app]
  have hoo : Oct (a ++ l) := Oct.app (fun o h => by have := ha o h; (exact Nat.lt_of_lt_of_le this (Nat.le_add_left _ _))) ho
  refine Ex.cons ?_
  refine Ex1.ret (Ev.binop (Ev.binop ?_))
  refine Ev.call (n := 1) (k := 26) (flt := false) ?_ (hn := Nat.le_of_ble_eq_true rfl)
  refine EvL.cons ?_
  refine Ev.len ?_
  refine Ev.name (by rfl) ?_
  refine ⟨by rw [N_len]; (exact ob224 hz), ?_⟩
  refine EvL.nil ?_
  rw [N_len]
  refine ⟨rfl, (fn_four st).mono fun d hd => ?_⟩
  subst hd
  refine Ev.name (by rfl) ?_
  refine Op.addl (by rw [N_len, N_len, List.length_append, four_len]; (exact ob225 hza hz)) ?_
  refine Ev.call (n := 1) (k := 26) (flt := false) ?_ (hn := Nat.le_of_ble_eq_true rfl)
  refine EvL.cons (Ev.call (n := 1) (k := 27) (flt := false) ?_ (hn := Nat.le_of_ble_eq_true rfl))
  refine EvL.cons ?_
  refine Ev.name (by rfl) ?_
  refine EvL.nil ?_
  refine ⟨rfl, (fn_check st hoo).mono fun d hd => ?_⟩
  subst hd
  refine EvL.nil ?_
  refine ⟨rfl, (fn_four st).mono fun d hd => ?_⟩
  subst hd
  rw [← N_app]
  refine Op.addl (by rw [N_len, N_len, List.length_append, List.length_append, four_len, four_len]; (exact ob226 hza hz)) ?_
  rw [← N_app]
  exact ⟨rfl, rfl⟩
/-! W12 -/
noncomputable def ws : Nat → List Nat → Nat
  | _, [] => 0
  | m, o :: r => m * o + ws (m - 1) r
theorem ws_up : ∀ (l : List Nat) (m : Nat), l.length ≤ m → ws (m + 1) l = ws m l + l.sum
  | [], m, _ => rfl
  | o :: r, m, h => by
    rw [List.length_cons] at h
    obtain ⟨k, rfl⟩ : ∃ k, m = k + 1 := ⟨m - 1, by (exact ob227 h)⟩
    have := ws_up r k (by (exact Nat.le_of_lt_succ h))
    simp only [ws, Nat.add_sub_cancel, List.sum_cons, this]
    rw [Nat.add_mul (k + 1) 1 o]; (exact ob228)
theorem ws_snoc : ∀ (l : List Nat) (o m : Nat), ws m (l ++ [o]) = ws m l + (m - l.length) * o
  | [], o, m => by simp [ws]
  | a :: l, o, m => by
    simp only [List.cons_append, ws, ws_snoc l o (m - 1), List.length_cons]
    rw [show m - 1 - l.length = m - (l.length + 1) by (exact ob229)]; (exact ob230)
noncomputable def loT (l : List Nat) : Nat := 1 + l.sum
noncomputable def hiT (l : List Nat) : Nat := l.length + ws l.length l
theorem hiT_snoc (l : List Nat) (o : Nat) : hiT (l ++ [o]) = hiT l + (loT l + o) := by
  unfold hiT loT
  rw [List.length_append, List.length_singleton, ws_snoc, ws_up l _ (Nat.le_refl _), show l.length + 1 - l.length = 1 by (exact ob231)]; (exact ob232)
theorem adl_eq (l : List Nat) : adl l = (loT l % 65521, hiT l % 65521) := by
  have : ∀ j, j ≤ l.length → adl (l.take j) = (loT (l.take j) % 65521, hiT (l.take j) % 65521) := by
    intro j
    induction j with
    | zero => intro _; simp [loT, hiT, ws, adl]
    | succ j ih =>
      intro hj
      have ho : l[j]? = some (l[j]'(by (exact hj))) := List.getElem?_eq_getElem (by (exact hj))
      generalize l[j]'(by (exact hj)) = o at ho
      have e : l.take (j + 1) = l.take j ++ [o] := by rw [List.take_add_one, ho]; rfl
      rw [adl_step ho, ih (by (exact Nat.le_of_lt hj)), e, hiT_snoc]
      have : loT (l.take j ++ [o]) = loT (l.take j) + o := by unfold loT; simp; (exact ob233)
      rw [this]
      simp only [Prod.mk.injEq]
      constructor <;> omega
  have := this l.length (Nat.le_refl _)
  rwa [List.take_length] at this
theorem ws_sum : ∀ (l : List Nat) (i n : Nat), i + l.length ≤ n → ((l.zipIdx i).map fun p => ((n : Int) - (p.2 : Nat)) * (p.1 : Nat)).sum = ((ws (n - i) l : Nat) : Int)
  | [], i, n, _ => rfl
  | o :: r, i, n, h => by
    rw [List.length_cons] at h
    rw [List.zipIdx_cons, List.map_cons, List.sum_cons, ws_sum r (i + 1) n (by (exact ob234 h))]
    simp only [ws, Int.natCast_add, Int.natCast_mul]
    rw [show n - (i + 1) = n - i - 1 by (exact Nat.add_zero _), Int.ofNat_sub (by (exact ob235 h))]
theorem N_sum (l : List Nat) : (l.map fun (n : Nat) => (n : Int)).sum = ((l.sum : Nat) : Int) := by
  induction l with
  | nil => rfl
  | cons a l ih => rw [List.map_cons, List.sum_cons, List.sum_cons, ih]; (rfl)
noncomputable def asI : D → Int
  | .int i => i
  | _ => 0
noncomputable def asT : D → List D
  | .tuple ds => ds
  | _ => []
noncomputable def wD (n : Nat) (d : D) : D := .int (((n : Int) - asI ((asT d).getD 0 .none)) * asI ((asT d).getD 1 .none))
theorem wD_enum (l : List Nat) (n : Nat) : (enumD (N l)).map (wD n) = ((l.zipIdx).map fun p => ((n : Int) - (p.2 : Nat)) * (p.1 : Nat)).map D.int := by
  unfold enumD N
  rw [List.zipIdx_map, List.map_map, List.map_map, List.map_map]
  rfl
theorem fn_stream {B : Bs} (st : Stat B) {l : List Nat} {flt : Bool} (ho : Oct l) (hz : l.length ≤ 1000) : FnP B "_law_stream" 3 flt [.list (N l)] (fun d => d = .list (N (strm l))) := by
  refine FnP.any (k := 29) (Δ := [("octets", .list (N l))]) (ns := ["octets"]) st (by rfl) (Binds.one (by decide) fun fd v hp h1 h2 => by obtain ⟨⟩ := fd; subst hp h1 h2; rfl) rfl (by decide +kernel) fun A L fa cd fr hfr => ?_
  have hnl : (N l).length = l.length := N_len
  refine Ex.cons (Ex1.assign (Ev.mono (K' := fun d μ1 => d = .int (loT l : Nat) ∧ μ1 = []) ?_ ?_) (.inl (by rfl)))
  · refine Ev.binop ?_
    refine Ev.kint ?_
    refine Ev.sum ?_
    refine Ev.name (by rfl) ?_
    refine ⟨_, (congrArg D.list I_N).symm, ?_⟩
    refine Op.add ?_
    rw [show (I l).sum = ((l.sum : Nat) : Int) from N_sum l]
    refine ⟨congrArg D.int ?_, rfl⟩
    unfold loT; simp
  rintro d μ1 ⟨rfl, rfl⟩
  refine Ex.cons (Ex1.assign (Ev.mono (K' := fun d μ1 => d = .int (hiT l : Nat) ∧ μ1 = []) ?_ ?_) (.inl (by rfl)))
  · refine Ev.binop ?_
    refine Ev.len ?_
    refine Ev.name (by rfl) ?_
    refine ⟨by first | (exact ob236 hnl hz) | (simp only [List.length_cons, List.length_nil, List.length_map, List.length_append]; omega) | (simp; done) | decide, ?_⟩
    refine Ev.sum ?_
    refine Ev.comp1 (cl := [("octets", L + 1)]) (Δin := [("octets", .list (N l))]) (EvIter.enum ?_) (by rfl) ⟨⟨by rfl, by rfl, by rfl, by rfl⟩, trivial⟩ ⟨by rfl, trivial⟩ (by rfl)
    refine Ev.name (by rfl) ?_
    refine .inl ⟨_, rfl, fun L' => ?_⟩
    refine LastK.pure (nms := ["octet", "place"]) (wD l.length) (by rw [enumN_len]; simp; (exact Nat.le_trans hz (Nat.le_add_left _ _))) .refl (fun d hd => ?_) fun Δ' _ => ?_
    · obtain ⟨k, hk⟩ := List.getElem?_of_mem hd
      obtain ⟨n, hn, rfl⟩ := enumN_get hk
      have hk' : k < l.length := (List.getElem?_eq_some_iff.mp hn).1
      have hn' := ho n (List.mem_of_getElem? hn)
      refine ⟨_, .pair _ _ _ _ _ _ _ _ (.inl (by rfl)) (.inl (by rfl)), rfl, fun r => ?_⟩
      refine Ev.binop ?_
      refine Ev.binop ?_
      refine Ev.len ?_
      refine Ev.name (by rfl) ?_
      refine ⟨by first | (grind) | (simp only [List.length_cons, List.length_nil, List.length_map, List.length_append]; omega) | (simp; done) | decide, ?_⟩
      refine Ev.name (by rfl) ?_
      refine Op.sub ?_
      refine Ev.name (by rfl) ?_
      refine Op.mul (mulSmall (by (exact ob237 hnl hz hk')) (by (exact ob88 hn'))) ?_
      rw [hnl]
      refine ⟨rfl, rfl, rfl⟩
    rw [List.nil_append, wD_enum]
    refine ⟨_, rfl, ?_⟩
    rw [ws_sum _ 0 _ (by (exact ob238))]
    refine Op.add ?_
    refine ⟨congrArg D.int ?_, rfl⟩
    unfold hiT; rw [hnl]; simp
  rintro d μ1 ⟨rfl, rfl⟩
  refine Ex.cons (Ex1.assign (Ev.mono (K' := fun d μ1 => d = .list (N [120, 1, 1, l.length % 256, l.length / 256, 255 - l.length % 256, 255 - l.length / 256]) ∧ μ1 = []) ?_ ?_) (.inl (by rfl)))
  · refine Ev.list ?_
    refine EvL.cons ?_
    refine Ev.kint ?_
    refine EvL.cons ?_
    refine Ev.kint ?_
    refine EvL.cons ?_
    refine Ev.kint ?_
    refine EvL.cons ?_
    refine Ev.binop ?_
    refine Ev.len ?_
    refine Ev.name (by rfl) ?_
    refine ⟨by first | (grind) | (simp only [List.length_cons, List.length_nil, List.length_map, List.length_append]; omega) | (simp; done) | decide, ?_⟩
    refine Ev.kint ?_
    refine Op.mod (by (exact Int.natCast_nonneg _)) ?_
    refine EvL.cons ?_
    refine Ev.binop ?_
    refine Ev.len ?_
    refine Ev.name (by rfl) ?_
    refine ⟨by first | (grind) | (simp only [List.length_cons, List.length_nil, List.length_map, List.length_append]; omega) | (simp; done) | decide, ?_⟩
    refine Ev.kint ?_
    refine Op.floordiv (by (exact Int.natCast_nonneg _)) (by (exact Int.natCast_nonneg _)) ?_
    refine EvL.cons ?_
    refine Ev.binop ?_
    refine Ev.kint ?_
    refine Ev.binop ?_
    refine Ev.len ?_
    refine Ev.name (by rfl) ?_
    refine ⟨by first | (grind) | (simp only [List.length_cons, List.length_nil, List.length_map, List.length_append]; omega) | (simp; done) | decide, ?_⟩
    refine Ev.kint ?_
    refine Op.mod (by (exact Int.natCast_nonneg _)) ?_
    refine Op.sub ?_
    refine EvL.cons ?_
    refine Ev.binop ?_
    refine Ev.kint ?_
    refine Ev.binop ?_
    refine Ev.len ?_
    refine Ev.name (by rfl) ?_
    refine ⟨by first | (grind) | (simp only [List.length_cons, List.length_nil, List.length_map, List.length_append]; omega) | (simp; done) | decide, ?_⟩
    refine Ev.kint ?_
    refine Op.floordiv (by (exact Int.natCast_nonneg _)) (by (exact Int.natCast_nonneg _)) ?_
    refine Op.sub ?_
    refine EvL.nil ?_
    rw [hnl]
    refine ⟨rfl, by show 7 ≤ 16777216; decide, ?_, rfl⟩
    have e1 : (l.length : Int) % 256 = ((l.length % 256 : Nat) : Int) := rfl
    have e2 : (l.length : Int) / 256 = ((l.length / 256 : Nat) : Int) := rfl
    have e3 : 255 - (l.length : Int) % 256 = ((255 - l.length % 256 : Nat) : Int) := by (exact ob239)
    have e4 : 255 - (l.length : Int) / 256 = ((255 - l.length / 256 : Nat) : Int) := by (exact ob240 hz)
    rw [e3, e4, e1, e2]
    rfl
  rintro d μ1 ⟨rfl, rfl⟩
  have hsl : (strm l).length = l.length + 11 := strm_len l
  have hw : hiT l % 65521 * 65536 + loT l % 65521 = adlW l := by unfold adlW; rw [adl_eq]
  refine Ex.cons (Ex1.ret (Ev.binop (Ev.binop ?_)))
  refine Ev.name (by rfl) ?_
  refine Ev.toList ?_
  refine Ev.name (by rfl) ?_
  refine ⟨by (exact ob241 hnl hz), ?_⟩
  refine Op.addl (by rw [N_len, N_len]; show 7 + _ ≤ _; (exact ob242 hz)) ?_
  rw [← N_app]
  refine Ev.call (n := 1) (k := 26) (flt := false) ?_ (hn := Nat.le_of_ble_eq_true rfl)
  refine EvL.cons ?_
  refine Ev.binop ?_
  refine Ev.binop ?_
  refine Ev.binop ?_
  refine Ev.name (by rfl) ?_
  refine Ev.kint ?_
  refine Op.mod (by (exact Int.natCast_nonneg _)) ?_
  refine Ev.kint ?_
  refine Op.mul (mulSmall (by (exact ob243)) (by (exact Nat.le_add_left _ _))) ?_
  refine Ev.binop ?_
  refine Ev.name (by rfl) ?_
  refine Ev.kint ?_
  refine Op.mod (by (exact Int.natCast_nonneg _)) ?_
  refine Op.add ?_
  refine EvL.nil ?_
  have e : (hiT l : Int) % 65521 * 65536 + (loT l : Int) % 65521 = ((adlW l : Nat) : Int) := by rw [← hw]; rfl
  rw [e]
  refine ⟨rfl, (fn_four st).mono fun d hd => ?_⟩
  subst hd
  refine Op.addl (by rw [N_len, N_len, List.length_append, four_len]; show 7 + _ + 4 ≤ _; (exact ob244 hz)) ?_
  rw [← N_app]
  exact ⟨rfl, rfl⟩
theorem fn_one {B : Bs} (st : Stat B) {m : MO} {ds : List D} (h : SrcM m) (h0 : 0 < ds.length) (h1 : ds.length ≤ 300) (ht : ∀ d ∈ ds, d.tree = true) : FnS B "_law_one" 3 m [.list ds] (fun d m' => SrcM m' ∧ d ∈ ds) := by
  refine FnS.of (k := 25) (Δ := [("source", .obj 0), ("things", .list ds)]) (ns := ["source", "things"]) st (by rfl) (Binds.two (by decide) fun fd v w hp h1 h2 => by obtain ⟨⟩ := fd; subst hp h1 h2; rfl) rfl (by decide +kernel) fun A L fa cd => ?_
  refine Ex.cons (Ex1.ret (Ev.item (Ev.name (by rfl) ?_)))
  refine Ev.callS (n := 1) (k := 24) (by rfl) ?_ (hn := Nat.le_of_ble_eq_true rfl)
  refine EvL.cons ?_
  refine Ev.len ?_
  refine Ev.name (by rfl) ?_
  refine ⟨by first | (exact ob245 h1) | (simp only [List.length_cons, List.length_nil, List.length_map, List.length_append]; omega) | (simp; done) | decide, ?_⟩
  refine EvL.nil ?_
  refine ⟨rfl, m, [], rfl, h.live, (take_ok st h (by (exact Int.ofNat_lt.mpr h0)) (by (exact Int.ofNat_le.mpr h1))).mono fun d m' hd => ?_⟩
  obtain ⟨hm, r, rfl, hr⟩ := hd
  have hr' : r < ds.length := by (exact Int.ofNat_lt.mp hr)
  refine ⟨ds[r], by rw [pyGet_nat]; exact List.getElem?_eq_getElem hr', by (exact ob246 h1), ?_⟩
  exact ⟨ht _ (List.getElem_mem hr'), m', [], rfl, hm.live, hm, List.getElem_mem hr'⟩
/-! W13 -/
noncomputable def cutsOf (l : List Nat) : Nat → List Nat → List (List Nat)
  | p, [] => [(l.drop p).take (l.length - p)]
  | p, c :: r => (l.drop p).take (c - p) :: cutsOf l c r
theorem cuts_flat (l : List Nat) : ∀ (cs : List Nat) (p : Nat), (p :: cs).Pairwise (· ≤ ·) → (∀ c ∈ cs, c ≤ l.length) → (cutsOf l p cs).flatten = l.drop p
  | [], p, _, _ => by simp [cutsOf]; rw [List.take_of_length_le (by simp)]
  | c :: r, p, hp, hl => by
    rw [List.pairwise_cons] at hp
    have hc := hp.1 c (.head _)
    rw [cutsOf, List.flatten_cons, cuts_flat l r c hp.2 fun x hx => hl x (.tail _ hx)]
    have := List.take_append_drop (c - p) (l.drop p)
    rwa [List.drop_drop, show p + (c - p) = c by (exact Nat.add_sub_cancel' hc)] at this
theorem cutsOf_len (l : List Nat) : ∀ (cs : List Nat) (p : Nat), (cutsOf l p cs).length = cs.length + 1
  | [], p => rfl
  | c :: r, p => by rw [cutsOf, List.length_cons, cutsOf_len l r c, List.length_cons]
noncomputable def partD (l : List Nat) (d : D) : D := .list (N ((l.drop (asI ((asT d).getD 0 .none)).toNat).take ((asI ((asT d).getD 1 .none)).toNat - (asI ((asT d).getD 0 .none)).toNat)))
theorem part_zip (l : List Nat) : ∀ (cs : List Nat) (p : Nat), (zipD (.int (p : Nat) :: N cs) (N cs ++ [.int (l.length : Nat)])).map (partD l) = (cutsOf l p cs).map fun q => .list (N q)
  | [], p => by simp [zipD, N, partD, asI, asT, cutsOf]
  | c :: r, p => by
    have := part_zip l r c
    rw [cutsOf, List.map_cons, ← this]
    simp [zipD, N, partD, asI, asT]
theorem zip_mem {cs : List Nat} {p n : Nat} {d : D} (h : d ∈ zipD (.int (p : Nat) :: N cs) (N cs ++ [.int (n : Nat)])) : ∃ a b : Nat, d = .tuple [.int (a : Nat), .int (b : Nat)] := by
  unfold zipD at h
  obtain ⟨⟨x, y⟩, hxy, rfl⟩ := List.mem_map.mp h
  have hx := (List.of_mem_zip hxy).1
  have hy := (List.of_mem_zip hxy).2
  have e1 : ∃ a : Nat, x = .int (a : Nat) := by
    rcases List.mem_cons.mp hx with rfl | hx
    · exact ⟨p, rfl⟩
    · obtain ⟨a, _, rfl⟩ := List.mem_map.mp hx; exact ⟨a, rfl⟩
  have e2 : ∃ a : Nat, y = .int (a : Nat) := by
    rcases List.mem_append.mp hy with hy | hy
    · obtain ⟨a, _, rfl⟩ := List.mem_map.mp hy; exact ⟨a, rfl⟩
    · rw [List.mem_singleton] at hy; exact ⟨n, hy⟩
  obtain ⟨a, rfl⟩ := e1
  obtain ⟨b, rfl⟩ := e2
  exact ⟨a, b, rfl⟩
theorem ints_nat : ∀ {ns : List Int}, (∀ n ∈ ns, 0 ≤ n) → ns = I (ns.map Int.toNat)
  | [], _ => rfl
  | n :: r, h => by
    have := ints_nat (ns := r) fun m hm => h m (.tail _ hm)
    have hn := h n (.head _)
    unfold I at this ⊢
    rw [List.map_cons, List.map_cons, ← this, Int.toNat_of_nonneg hn]
theorem sl_N (l : List Nat) (a b : Option Int) : sl (N l) a b = N (sl l a b) := by
  unfold sl; rw [N_len]; unfold N; rw [List.map_take, List.map_drop]
theorem fn_parted {B : Bs} (st : Stat B) {m : MO} {l : List Nat} (h : SrcM m) (hl3 : 3 ≤ l.length) (hl : l.length ≤ 300) :
    FnS B "_law_parted" 3 m [.list (N l)] (fun d m' => SrcM m' ∧ ∃ ps : List (List Nat), d = .list (ps.map fun q => .list (N q)) ∧ ps.flatten = l ∧ ps ≠ [] ∧ ps.length ≤ 3) := by
  refine FnS.of (k := 30) (Δ := [("source", .obj 0), ("octets", .list (N l))]) (ns := ["source", "octets"]) st (by rfl) (Binds.two (by decide) fun fd v w hp h1 h2 => by obtain ⟨⟩ := fd; subst hp h1 h2; rfl) rfl (by decide +kernel) fun A L fa cd => ?_
  have hnl : (N l).length = l.length := N_len
  refine Ex.cons (Ex1.assign (Ev.sorted ?_) (.inl (by rfl)))
  refine Ev.comp1 (cl := [("source", L + 1), ("octets", L + 2)]) (Δin := [("octets", .list (N l)), ("source", .obj 0)]) (EvIter.range ?_) (by rfl) ⟨⟨by rfl, by rfl, by rfl, by rfl⟩, ⟨by rfl, by rfl, by rfl, by rfl⟩, trivial⟩ ⟨by rfl, by rfl, trivial⟩ (by rfl)
  refine Ev.binop ?_
  refine Ev.kint ?_
  refine Ev.callS (n := 1) (k := 24) (by rfl) ?_ (hn := Nat.le_of_ble_eq_true rfl)
  refine EvL.cons ?_
  refine Ev.kint ?_
  refine EvL.nil ?_
  refine ⟨rfl, m, [], rfl, h.live, (take_ok st h (by decide) (by decide)).mono fun d m' hd => ?_⟩
  obtain ⟨hm', t, rfl, ht⟩ := hd
  refine Op.add ?_
  refine ⟨_, rfl, ?_⟩
  refine ⟨by (exact Int.natCast_nonneg _), by (exact ob247 ht), fun L' => ?_⟩
  have et : (1 + (t : Int)).toNat = 1 + t := by (exact Nat.add_zero _)
  rw [et]
  refine LastK.inv (σ := MO × List Nat) ["turn"] (fun _ x => [x.1]) (fun j x => SrcM x.1 ∧ x.2.length = j ∧ ∀ n ∈ x.2, n ≤ l.length) (fun j x => N x.2) (m', []) ⟨hm', rfl, fun _ h => nomatch h⟩ rfl rfl .refl (fun j x hj hx => ?_) (fun j x d hd hx => ?_) fun x Δ hx _ => ?_
  · rw [rng_len] at hj
    rw [N_len, hx.2.1]; (exact ob248 hj ht)
  · obtain ⟨hj, rfl⟩ := rng_get hd
    obtain ⟨hxm, hxl, hxn⟩ := hx
    refine ⟨_, .name _ _ _ (.inl (by rfl)), rfl, fun r => ?_⟩
    show Ev B _ _ _ _ _
    refine Ev.binop ?_
    refine Ev.kint ?_
    refine Ev.callS (n := 1) (k := 24) (by rfl) ?_ (hn := Nat.le_of_ble_eq_true rfl)
    refine EvL.cons ?_
    refine Ev.binop ?_
    refine Ev.len ?_
    refine Ev.name (by rfl) ?_
    refine ⟨by first | (exact ob249 hnl hl) | (simp only [List.length_cons, List.length_nil, List.length_map, List.length_append]; omega) | (simp; done) | decide, ?_⟩
    refine Ev.kint ?_
    refine Op.sub ?_
    refine EvL.nil ?_
    rw [hnl]
    refine ⟨rfl, x.1, [], rfl, hxm.live, (take_ok st hxm (by (exact ob250 hl3)) (by (exact ob251 hl))).mono fun d m' hd => ?_⟩
    obtain ⟨hm', t, rfl, ht⟩ := hd
    refine Op.add ?_
    refine ⟨rfl, (m', x.2 ++ [1 + t]), ⟨hm', by simp [hxl], fun n hn => ?_⟩, rfl, ?_⟩
    · rcases List.mem_append.mp hn with hn | hn
      · exact hxn n hn
      · rw [List.mem_singleton] at hn; (exact ob252 hn ht)
    · rw [N_app]; congr 1
  obtain ⟨hxm, hxl, hxn⟩ := hx
  rw [rng_len] at hxl
  obtain ⟨m2, ns⟩ := x
  dsimp only at hxm hxl hxn ⊢
  refine ⟨I ns, by rw [I_N], by rw [I_len]; (exact ob253 hxl ht), fun ns' hp hs => ?_⟩
  have hpos : ∀ n ∈ ns', 0 ≤ n := fun n hn => by
    have := hp.mem_iff.mp hn
    obtain ⟨k, _, rfl⟩ := List.mem_map.mp this; (exact Int.natCast_nonneg _)
  have hns := ints_nat hpos
  have hle : ∀ c ∈ ns'.map Int.toNat, c ≤ l.length := fun c hc => by
    obtain ⟨n, hn, rfl⟩ := List.mem_map.mp hc
    obtain ⟨k, hk, rfl⟩ := List.mem_map.mp (hp.mem_iff.mp hn)
    rw [Int.toNat_natCast]; exact hxn k hk
  have hsn : (ns'.map Int.toNat).Pairwise (· ≤ ·) := by
    rw [List.pairwise_map]
    exact hs.imp fun h => by (exact ob254 h)
  have hln : (ns'.map Int.toNat).length ≤ 2 := by
    rw [List.length_map, hp.length_eq, I_len, hxl]; (exact ob255 ht)
  generalize ns'.map Int.toNat = cs at *
  rw [hns, I_N]
  have hcl : (N cs).length = cs.length := N_len
  refine Ex.cons (Ex1.ret (Ev.comp1 (cl := [("octets", L + 2)]) (Δin := [("octets", .list (N l))]) (EvIter.zip ?_) (by rfl) ⟨⟨by rfl, by rfl, by rfl, by rfl⟩, trivial⟩ ⟨by rfl, trivial⟩ (by rfl)))
  refine Ev.binop ?_
  refine Ev.list ?_
  refine EvL.cons ?_
  refine Ev.kint ?_
  refine EvL.nil ?_
  refine ⟨rfl, by decide, ?_⟩
  refine Ev.name (by rfl) ?_
  refine Op.addl (by first | omega | (simp only [List.length_cons, List.length_nil, List.length_map, List.length_append]; (exact ob256 hcl hln)) | (simp; done) | decide) ?_
  refine ⟨_, rfl, ?_⟩
  refine Ev.binop ?_
  refine Ev.name (by rfl) ?_
  refine Ev.list ?_
  refine EvL.cons ?_
  refine Ev.len ?_
  refine Ev.name (by rfl) ?_
  refine ⟨by first | (exact ob249 hnl hl) | (simp only [List.length_cons, List.length_nil, List.length_map, List.length_append]; omega) | (simp; done) | decide, ?_⟩
  refine EvL.nil ?_
  refine ⟨rfl, by show 1 ≤ 16777216; decide, ?_⟩
  refine Op.addl (by rw [hcl]; show _ + 1 ≤ _; (exact Nat.lt_of_le_of_lt hln (Nat.le_of_ble_eq_true rfl))) ⟨_, rfl, fun L' => ?_⟩
  rw [hnl]
  have hzl : (zipD ([D.int 0] ++ N cs) (N cs ++ [D.int (l.length : Nat)])).length ≤ 4 := by
    unfold zipD; rw [List.length_map, List.length_zip, List.length_append, hcl, List.length_append, hcl]
    show min (1 + cs.length) (cs.length + 1) ≤ 4; (exact ob257 hln)
  refine LastK.pure (nms := ["last", "first"]) (partD l) (by simp only [List.length_nil]; (exact ob258 hzl)) .refl (fun d hd => ?_) fun Δ' _ => ?_
  · obtain ⟨a, b, rfl⟩ := zip_mem (p := 0) hd
    refine ⟨_, .pair _ _ _ _ _ _ _ _ (.inl (by rfl)) (.inl (by rfl)), rfl, fun r => ?_⟩
    refine Ev.cut ?_
    refine Ev.name (by rfl) ?_
    refine EvP.some ?_
    refine Ev.name (by rfl) ?_
    refine ⟨_, rfl, ?_⟩
    refine EvP.some ?_
    refine Ev.name (by rfl) ?_
    refine ⟨_, rfl, ?_⟩
    refine ⟨by first | (exact ob259 hnl hl) | (simp only [List.length_cons, List.length_nil, List.length_map, List.length_append]; omega) | (simp; done) | decide, ?_⟩
    rw [sl_N, sl_nat]
    exact ⟨rfl, rfl, rfl⟩
  rw [List.nil_append]
  have e := part_zip l cs 0
  refine ⟨rfl, m2, [], rfl, hxm.live, hxm, cutsOf l 0 cs, congrArg D.list e, ?_, ?_, ?_⟩
  · exact (cuts_flat l cs 0 (List.pairwise_cons.mpr ⟨fun _ _ => Nat.zero_le _, hsn⟩) hle).trans (by simp)
  · intro h; have := cutsOf_len l cs 0; rw [h] at this; simp at this
  · rw [cutsOf_len]; (exact Nat.lt_succ_of_le hln)
/-! W14 -/
theorem Ex1.mono {B : Bs} {a : Act} {Δ : DE} {μ : List MO} {Kn Kn' : DE → List MO → Prop} {Kr Kr' : D → List MO → Prop} {t : Stmt} (h : Ex1 B a Δ μ t Kn' Kr') (hn : ∀ Δ μ, Kn' Δ μ → Kn Δ μ) (hr : ∀ d μ, Kr' d μ → Kr d μ) : Ex1 B a Δ μ t Kn Kr := fun ok C ρ s S Q E h1 h2 hE =>
  h ok C ρ s S Q E (fun Δ' C' ρ' μ' s' k => h1 Δ' C' ρ' μ' s' (hn _ _ k)) (fun v d Δ' C' ρ' μ' s' k => h2 v d Δ' C' ρ' μ' s' (hr _ _ k)) hE
noncomputable def tEXt : List Nat := [116, 69, 88, 116]
noncomputable def gAMA : List Nat := [103, 65, 77, 65]
noncomputable abbrev Pic := List (List (List Nat))
noncomputable def rowE (r : List (List Nat)) : D := .list (r.map fun c => .tuple (N c))
noncomputable def flatR (k : Nat) (rows : Pic) : List Nat := rows.flatMap fun r => k :: r.flatten
structure PicOk (w h : Nat) (rows : Pic) : Prop where
  h : rows.length = h
  w : ∀ r ∈ rows, r.length = w
  c : ∀ r ∈ rows, ∀ c ∈ r, c.length = 4 ∧ Oct c
noncomputable def tupD : D → List D
  | .tuple es => es
  | _ => []
noncomputable def rowIts (k : Nat) : D → List D
  | .list ds => .int (k : Nat) :: ds.flatMap tupD
  | _ => []
theorem flat4 : ∀ {r : List (List Nat)}, (∀ c ∈ r, c.length = 4) → r.flatten.length = 4 * r.length
  | [], _ => rfl
  | c :: r, h => by rw [List.flatten_cons, List.length_append, h c (.head _), flat4 fun x hx => h x (.tail _ hx), List.length_cons]; (exact Nat.add_comm _ _)
theorem PicOk.len {w h k : Nat} {rows : Pic} (p : PicOk w h rows) : (flatR k rows).length = h * (1 + 4 * w) := by
  obtain ⟨rfl, hw, hc⟩ := p
  induction rows with
  | nil => simp [flatR]
  | cons r rows ih =>
    have := ih (fun r hr => hw r (.tail _ hr)) fun r hr => hc r (.tail _ hr)
    unfold flatR at this ⊢
    rw [List.flatMap_cons, List.length_append, this, List.length_cons, flat4 fun c h => (hc r (.head _) c h).1, hw r (.head _), List.length_cons, Nat.add_mul rows.length 1]
    generalize rows.length * (1 + 4 * w) = q
    (exact ob260)
theorem PicOk.oct {w h k : Nat} {rows : Pic} (p : PicOk w h rows) (hk : k < 256) : Oct (flatR k rows) := fun o ho => by
  obtain ⟨r, hr, ho⟩ := List.mem_flatMap.mp ho
  rcases List.mem_cons.mp ho with rfl | ho
  · exact hk
  · obtain ⟨c, hc, ho⟩ := List.mem_flatten.mp ho
    exact (p.c r hr c hc).2 o ho
theorem tup_flat (r : List (List Nat)) : (r.map fun c => D.tuple (N c)).flatMap tupD = N r.flatten := by
  induction r with
  | nil => rfl
  | cons c r ih => rw [List.map_cons, List.flatMap_cons, ih, List.flatten_cons, N_app]; rfl
theorem rows_flat (k : Nat) (rows : Pic) : (rows.map rowE).flatMap (rowIts k) = N (flatR k rows) := by
  induction rows with
  | nil => rfl
  | cons r rows ih =>
    have e : rowIts k (rowE r) = N (k :: r.flatten) := by show _ :: _ = _; rw [tup_flat]; rfl
    rw [List.map_cons, List.flatMap_cons, ih, e, ← N_app]; rfl
noncomputable def headN (w h : Nat) : List Nat := four w ++ four h ++ [8, 6, 0, 0, 0]
noncomputable def ltD (c : Chunk) : D := .tuple [.str (nm c.1), .list (N c.2)]
structure MidC (c : Chunk) : Prop where
  n : c.1 = IDAT ∨ c.1 = tEXt ∨ c.1 = gAMA
  o : Oct c.2
  l : c.2.length ≤ 1000
structure LotsOk (w h : Nat) (data : List Nat) (lots : List Chunk) : Prop where
  out : ∃ mid, lots = (IHDR, headN w h) :: (mid ++ [(IEND, [])]) ∧ idat mid = strm data ∧ IDAT ∈ mid.map (·.1) ∧ (∀ c ∈ mid, MidC c) ∧ mid.length ≤ 6
theorem idat_app (a b : List Chunk) : idat (a ++ b) = idat a ++ idat b := by unfold idat idats; rw [List.filter_append, List.map_append, List.flatten_append]
theorem le_sum_mem {l : List Nat} {n : Nat} (h : n ∈ l) : n ≤ l.sum := by
  induction l with
  | nil => cases h
  | cons a l ih =>
    rw [List.sum_cons]
    cases h with
    | head => (exact Nat.le_add_right _ _)
    | tail _ h => have := ih h; (exact Nat.le_trans this (Nat.le_add_left _ _))
theorem TwoK.pureI {B : Bs} {a : Act} {t1 tg i2 elt : Expr} {K : DE → List MO → List D → Prop} {μ : List MO} (its : D → List D) {items : List D} {Δ : DE} {outs : List D} (hz : outs.length + (items.flatMap its).length ≤ 16777216)
    (step : ∀ d ∈ items, ∃ b, BindT a t1 d b ∧ (∀ Δ r, EvIter B (a.wit r) (b ++ Δ) μ tg i2 fun items2 μ1 => items2 = its d ∧ μ1 = μ) ∧
      ∀ e ∈ its d, ∃ b2, BindT a tg e b2 ∧ ∀ Δ r, Ev B (a.wit r) (b2 ++ Δ) μ elt fun d' μ2 => d'.tree = true ∧ d' = e ∧ μ2 = μ)
    (hn : ∀ Δ, K Δ μ (outs ++ items.flatMap its)) : TwoK B a elt t1 tg i2 [] K items Δ μ outs :=
  TwoK.pure its id hz step fun Δ => by
    have : (fun d => (its d).map id) = its := funext fun d => List.map_id _
    rw [this]; exact hn Δ
theorem fn_lots {B : Bs} (st : Stat B) {m : MO} {w h : Nat} {rows : Pic} (hm : SrcM m) (hp : PicOk w h rows) (hw : w ≤ 3) (hh : h ≤ 2) :
    FnS B "_law_lots" 5 m [.int (w : Nat), .int (h : Nat), .list (rows.map rowE)] (fun d m' => SrcM m' ∧ ∃ lots, d = .list (lots.map ltD) ∧ LotsOk w h (flatR 0 rows) lots) := by
  refine FnS.of (k := 31) (Δ := [("source", .obj 0), ("width", .int (w : Nat)), ("height", .int (h : Nat)), ("rows", .list (rows.map rowE))]) (ns := ["source", "width", "height", "rows"]) st (by rfl) (Binds.four (by decide) fun fd u v w t hp h1 h2 => by obtain ⟨⟩ := fd; subst hp h1 h2; rfl) rfl (by decide +kernel) fun A L fa cd => ?_
  have hfl := hp.len (k := 0)
  have hfo := hp.oct (k := 0) (by decide)
  have hfm : h * (1 + 4 * w) ≤ 26 := Nat.le_trans (Nat.mul_le_mul_right _ hh) (by (exact ob261 hw))
  refine Ex.cons (Ex1.assign (Ev.binop (Ev.binop ?_)) (.inl (by rfl)))
  refine Ev.call (n := 1) (k := 26) (flt := false) ?_ (hn := Nat.le_of_ble_eq_true rfl)
  refine EvL.cons ?_
  refine Ev.name (by rfl) ?_
  refine EvL.nil ?_
  refine ⟨rfl, (fn_four st).mono fun d hd => ?_⟩
  subst hd
  refine Ev.call (n := 1) (k := 26) (flt := false) ?_ (hn := Nat.le_of_ble_eq_true rfl)
  refine EvL.cons ?_
  refine Ev.name (by rfl) ?_
  refine EvL.nil ?_
  refine ⟨rfl, (fn_four st).mono fun d hd => ?_⟩
  subst hd
  refine Op.addl (by rw [N_len, N_len, four_len, four_len]; decide) ?_
  refine Ev.list ?_
  refine EvL.cons ?_
  refine Ev.kint ?_
  refine EvL.cons ?_
  refine Ev.kint ?_
  refine EvL.cons ?_
  refine Ev.kint ?_
  refine EvL.cons ?_
  refine Ev.kint ?_
  refine EvL.cons ?_
  refine Ev.kint ?_
  refine EvL.nil ?_
  refine ⟨rfl, by decide, ?_⟩
  refine Op.addl (by rw [List.length_append, N_len, N_len, four_len, four_len]; decide) ?_
  have eh : N (four w) ++ N (four h) ++ [D.int 8, D.int 6, D.int 0, D.int 0, D.int 0] = N (headN w h) := by unfold headN; rw [N_app, N_app]; rfl
  rw [eh]
  refine Ex.cons (Ex1.assign ?_ (.inl (by rfl)))
  refine Ev.call (n := 3) (k := 29) (flt := false) (EvL.cons ?_) (hn := Nat.le_of_ble_eq_true rfl)
  refine Ev.comp2 (cl := []) (Δin := []) (EvIter.data (Ev.name (by rfl) ⟨_, rfl, fun L' => ?_⟩)) (by rfl) trivial trivial (by rfl)
  refine TwoK.pureI (rowIts 0) (by rw [rows_flat, N_len, List.length_nil]; (exact ob262 hfl hfm)) (fun d hd => ?_) fun Δ' => ?_
  · obtain ⟨r, hr, rfl⟩ := List.mem_map.mp hd
    have hrl : r.flatten.length ≤ 12 := by rw [flat4 fun c hc => (hp.c r hr c hc).1, hp.w r hr]; (exact ob263 hw)
    refine ⟨_, .name _ _ _ (.inl (by rfl)), fun Δ' q => EvIter.data (Ev.binop ?_), fun e he => ?_⟩
    · refine Ev.list ?_
      refine EvL.cons ?_
      refine Ev.kint ?_
      refine EvL.nil ?_
      refine ⟨rfl, by decide, ?_⟩
      refine Ev.comp2 (cl := []) (Δin := []) (EvIter.data (Ev.name (by rfl) ⟨_, rfl, fun L' => ?_⟩)) (by rfl) trivial trivial (by rfl)
      refine TwoK.pureI tupD (by rw [tup_flat, N_len, List.length_nil]; (exact ob264 hrl)) (fun d hd => ?_) fun Δ' => ?_
      · obtain ⟨c, hc, rfl⟩ := List.mem_map.mp hd
        refine ⟨_, .name _ _ _ (.inl (by rfl)), fun Δ' q => EvIter.data (Ev.name (by rfl) ⟨_, rfl, rfl, rfl⟩), fun e he => ?_⟩
        obtain ⟨n, _, rfl⟩ := List.mem_map.mp he
        refine ⟨_, .name _ _ _ (.inl (by rfl)), fun Δ' q => Ev.name (by rfl) ⟨rfl, rfl, rfl⟩⟩
      · rw [tup_flat, List.nil_append]
        refine Op.addl (by rw [N_len]; show 1 + _ ≤ _; (exact ob265 hrl)) ⟨_, rfl, ?_, rfl⟩
        show _ = _ :: _
        rw [tup_flat]; rfl
    · obtain ⟨n, rfl⟩ : ∃ n : Nat, e = .int (n : Nat) := by
        have : e ∈ N (0 :: r.flatten) := by
          have q : rowIts 0 (rowE r) = N (0 :: r.flatten) := by show _ :: _ = _; rw [tup_flat]; rfl
          rw [← q]; exact he
        obtain ⟨n, _, rfl⟩ := List.mem_map.mp this; exact ⟨n, rfl⟩
      refine ⟨_, .name _ _ _ (.inl (by rfl)), fun Δ' q => Ev.name (by rfl) ⟨rfl, rfl, rfl⟩⟩
  rw [rows_flat, List.nil_append]
  refine EvL.nil ⟨rfl, (fn_stream st hfo (by (exact ob266 hfl hfm))).mono fun d hd => ?_⟩
  subst hd
  have hsl := strm_len (flatR 0 rows)
  have hso : Oct (strm (flatR 0 rows)) := strm_oct hfo (by (exact ob267 hfl hfm))
  refine Ex.cons (Ex1.assign (Ev.listM ?_) (.inl (by rfl)))
  refine EvL.cons (Ev.tuple ?_)
  refine EvL.cons ?_
  refine Ev.kstr ?_
  refine EvL.cons ?_
  refine Ev.name (by rfl) ?_
  refine EvL.nil ?_
  refine ⟨rfl, by show 2 ≤ 16777216; decide, EvL.nil ⟨rfl, by show 1 ≤ 16777216; decide, ?_⟩⟩
  have e1 : [D.tuple [D.str (Str.ofString "IHDR"), D.list (N (headN w h))]] = [(IHDR, headN w h)].map ltD := by rfl
  rw [e1]
  refine Ex.cons (Ex1.for_ (EvIter.data ?_))
  refine Ev.callS (n := 3) (k := 30) (by rfl) ?_ (hn := Nat.le_of_ble_eq_true rfl)
  refine EvL.cons ?_
  refine Ev.name (by rfl) ?_
  refine EvL.nil ?_
  refine ⟨rfl, m, _, rfl, hm.live, (fn_parted st hm (by (exact ob268 hsl)) (by (exact ob269 hfl hsl hfm))).mono fun d m' hd => ?_⟩
  obtain ⟨hm', ps, rfl, hpf, hpn, hpl⟩ := hd
  refine ⟨_, rfl, ?_⟩
  have hpo : ∀ q ∈ ps, Oct q ∧ q.length ≤ 1000 := fun q hq => ⟨fun o ho => hso o (by rw [← hpf]; exact List.mem_flatten.mpr ⟨q, hq, ho⟩), by
    have : q.length ≤ ps.flatten.length := by
      rw [List.length_flatten]
      exact le_sum_mem (List.mem_map_of_mem hq)
    rw [hpf] at this; (exact ob270 this hfl hsl hfm)⟩
  refine ForK.inv (σ := MO × List Chunk) (fun _ _ => [("found", .obj 1), ("source", .obj 0)]) (fun _ x => [x.1, .list (((IHDR, headN w h) :: x.2).map ltD)])
    (fun j x => SrcM x.1 ∧ idat x.2 = (ps.take j).flatten ∧ (0 < j → IDAT ∈ x.2.map (·.1)) ∧ (∀ c ∈ x.2, MidC c) ∧ x.2.length ≤ 2 * j) (m', []) ⟨hm', rfl, fun h => absurd h (by decide), (fun _ h => nomatch h), Nat.le_refl _⟩ (.cons (by rfl) (.cons (by rfl) .nil)) rfl (fun j x d hd hx => ?_) fun x Δ hx hs => ?_
  · obtain ⟨q, hq, rfl⟩ : ∃ q, ps[j]? = some q ∧ d = .list (N q) := by
      rw [List.getElem?_map] at hd
      cases e : ps[j]? with
      | none => rw [e] at hd; cases hd
      | some q => rw [e] at hd; cases hd; exact ⟨q, rfl, rfl⟩
    obtain ⟨x1, x2⟩ := x
    obtain ⟨hx1, hx2, hx3, hx4, hx5⟩ := hx
    dsimp only at hx1 hx2 hx3 hx4 hx5 ⊢
    have hq' := hpo q (List.mem_of_getElem? hq)
    have hj : j < ps.length := (List.getElem?_eq_some_iff.mp hq).1
    refine ⟨_, .name _ _ _ (.inl (by rfl)), fun r => ?_⟩
    refine Ex.cons (Ex1.mono (Kr' := fun _ _ => False) (Kn' := fun Δ' μ' => ∃ y1 y2, SrcM y1 ∧ idat y2 = idat x2 ∧ (∀ c ∈ y2, MidC c) ∧ y2.length ≤ x2.length + 1 ∧ Sub [("lot", .list (N q)), ("found", .obj 1), ("source", .obj 0)] Δ' ∧ μ' = [y1, .list (((IHDR, headN w h) :: y2).map ltD)]) ?_ (fun Δ' μ' hk => ?_) fun _ _ h => h.elim)
    · refine Ex1.ife (EvB.cmp ?_ (by rfl))
      refine Ev.callS (n := 1) (k := 24) (by rfl) ?_ (hn := Nat.le_of_ble_eq_true rfl)
      refine EvL.cons ?_
      refine Ev.kint ?_
      refine EvL.nil ?_
      refine ⟨rfl, _, _, rfl, hx1.live, (take_ok st hx1 (by decide) (by decide)).mono fun d m2 hd => ?_⟩
      obtain ⟨hm2, t, rfl, ht⟩ := hd
      refine Ev.kint ?_
      refine Op.eq ?_
      refine ⟨_, rfl, ?_⟩
      refine ite_beq (fun _ => ?_) fun _ => ?_
      · refine Ex.cons (Ex1.expr (Ev.append ?_))
        refine Ev.name (by rfl) ?_
        refine ⟨1, _, rfl, rfl, ?_⟩
        refine Ev.tuple (EvL.cons ?_)
        refine Ev.callS (n := 3) (k := 25) (by rfl) ?_ (hn := Nat.le_of_ble_eq_true rfl)
        refine EvL.cons ?_
        refine Ev.list ?_
        refine EvL.cons ?_
        refine Ev.kstr ?_
        refine EvL.cons ?_
        refine Ev.kstr ?_
        refine EvL.nil ?_
        refine ⟨rfl, by show 2 ≤ 16777216; decide, ?_⟩
        refine EvL.nil ?_
        refine ⟨rfl, _, _, rfl, hm2.live, (fn_one st hm2 (by decide) (by decide) (by simp [D.tree])).mono fun d m3 hd => ?_⟩
        obtain ⟨hm3, hd⟩ := hd
        obtain ⟨a, ha, rfl⟩ : ∃ a, (a = tEXt ∨ a = gAMA) ∧ d = .str (nm a) := by
          simp only [List.mem_cons, List.not_mem_nil, or_false] at hd
          rcases hd with rfl | rfl
          · exact ⟨tEXt, .inl rfl, by rfl⟩
          · exact ⟨gAMA, .inr rfl, by rfl⟩
        refine EvL.cons (Ev.comp1 (cl := [("source", L + 1)]) (Δin := [("source", .obj 0)]) (EvIter.range ?_) (by rfl) ⟨⟨by rfl, by rfl, by rfl, by rfl⟩, trivial⟩ ⟨by rfl, trivial⟩ (by rfl))
        refine Ev.callS (n := 1) (k := 24) (by rfl) ?_ (hn := Nat.le_of_ble_eq_true rfl)
        refine EvL.cons ?_
        refine Ev.kint ?_
        refine EvL.nil ?_
        refine ⟨rfl, _, _, rfl, hm3.live, (take_ok st hm3 (by decide) (by decide)).mono fun d m4 hd => ?_⟩
        obtain ⟨hm4, t2, rfl, ht2⟩ := hd
        refine ⟨_, rfl, by (exact Int.natCast_nonneg _), by (exact ob271 ht2), fun L' => ?_⟩
        rw [Int.toNat_natCast]
        refine LastK.inv (σ := MO × List Nat) ["turn"] (fun _ y => [y.1, .list (((IHDR, headN w h) :: x2).map ltD)]) (fun j y => SrcM y.1 ∧ y.2.length = j ∧ Oct y.2) (fun j y => N y.2) (m4, []) ⟨hm4, rfl, fun _ h => nomatch h⟩ rfl rfl .refl (fun j y hj hy => ?_) (fun j y d hd hy => ?_) fun y Δ hy _ => ?_
        · rw [rng_len] at hj
          rw [N_len, hy.2.1]; (exact ob272 hj ht2)
        · obtain ⟨hj, rfl⟩ := rng_get hd
          obtain ⟨y1, y2⟩ := y
          obtain ⟨hy1, hyl, hyn⟩ := hy
          dsimp only at hy1 hyl hyn ⊢
          refine ⟨_, .name _ _ _ (.inl (by rfl)), rfl, fun r => ?_⟩
          show Ev B _ _ _ _ _
          refine Ev.callS (n := 1) (k := 24) (by rfl) ?_ (hn := Nat.le_of_ble_eq_true rfl)
          refine EvL.cons ?_
          refine Ev.kint ?_
          refine EvL.nil ?_
          refine ⟨rfl, _, _, rfl, hy1.live, (take_ok st hy1 (by decide) (by decide)).mono fun d m' hd => ?_⟩
          obtain ⟨hm', t, rfl, ht⟩ := hd
          refine ⟨rfl, (m', y2 ++ [t]), ⟨hm', by simp [hyl], hyn.app fun o ho => by rw [List.mem_singleton] at ho; (exact ob273 ho ht)⟩, rfl, ?_⟩
          rw [N_app]; rfl
        obtain ⟨y1, y2⟩ := y
        obtain ⟨hy1, hyl, hyn⟩ := hy
        rw [rng_len] at hyl
        dsimp only at hy1 hyl hyn ⊢
        refine EvL.nil ⟨by rfl, by show 2 ≤ 16777216; decide, _, rfl, rfl, by simp; (exact ob274 hx5 hj hpl), ?_⟩
        refine Ex.nil ⟨y1, x2 ++ [(a, y2)], hy1, ?_, ?_, by simp, .cons (by rfl) (.cons (by rfl) (.cons (by rfl) .nil)), ?_⟩
        · rw [idat_app]
          rcases ha with rfl | rfl <;> simp [idat, idats, tEXt, gAMA, IDAT]
        · intro c hc
          rcases List.mem_append.mp hc with hc | hc
          · exact hx4 c hc
          · rw [List.mem_singleton] at hc; subst hc
            exact ⟨.inr ha, hyn, by show y2.length ≤ _; (exact ob275 hyl ht2)⟩
        · show [_, _] = [_, _]
          rw [← List.cons_append, List.map_append]; rfl
      · refine Ex.nil ⟨m2, x2, hm2, rfl, hx4, by (exact Nat.le_succ _), .cons (by rfl) (.cons (by rfl) (.cons (by rfl) .nil)), rfl⟩
    · obtain ⟨y1, y2, hy1, hy2, hy4, hy5, hs, rfl⟩ := hk
      refine Ex.weak ?_ hs
      refine Ex.cons (Ex1.expr (Ev.append ?_))
      refine Ev.name (by rfl) ?_
      refine ⟨1, _, rfl, rfl, ?_⟩
      refine Ev.tuple ?_
      refine EvL.cons ?_
      refine Ev.kstr ?_
      refine EvL.cons ?_
      refine Ev.name (by rfl) ?_
      refine EvL.nil ?_
      refine ⟨by rfl, by show 2 ≤ 16777216; decide, _, rfl, rfl, by simp; (exact ob276 hy5 hx5 hj hpl), ?_⟩
      refine Ex.nil ⟨(y1, y2 ++ [(IDAT, q)]), ⟨hy1, ?_, fun _ => by simp, fun c hc => ?_, by simp; (exact ob277 hy5 hx5)⟩, .cons (by rfl) (.cons (by rfl) .nil), ?_⟩
      · show idat (y2 ++ _) = _
        rw [idat_app, hy2, hx2, List.take_add_one, hq, List.flatten_append]
        simp [idat, idats]
      · rcases List.mem_append.mp hc with hc | hc
        · exact hy4 c hc
        · rw [List.mem_singleton] at hc; subst hc
          exact ⟨.inl rfl, hq'.1, hq'.2⟩
      · show [_, _] = [_, _]
        rw [← List.cons_append, List.map_append]; rfl
  · obtain ⟨x1, x2⟩ := x
    obtain ⟨hx1, hx2, hx3, hx4, hx5⟩ := hx
    rw [List.length_map] at hx2 hx3 hx5
    rw [List.take_length, hpf] at hx2
    dsimp only at hx1 hx2 hx3 hx4 hx5 ⊢
    refine Ex.weak ?_ hs
    refine Ex.cons (Ex1.ret (Ev.binop (Ev.freeze (by rfl) (by rfl) ?_)))
    refine Ev.list ?_
    refine EvL.cons ?_
    refine Ev.tuple ?_
    refine EvL.cons ?_
    refine Ev.kstr ?_
    refine EvL.cons ?_
    refine Ev.list ?_
    refine EvL.nil ?_
    refine ⟨rfl, by decide, EvL.nil ⟨rfl, by show 2 ≤ 16777216; decide, EvL.nil ⟨rfl, by show 1 ≤ 16777216; decide, Op.addl (by simp; (exact ob278 hx5 hpl)) ?_⟩⟩⟩
    refine ⟨rfl, x1, _, rfl, hx1.live, hx1, (IHDR, headN w h) :: (x2 ++ [(IEND, [])]), ?_, ⟨x2, rfl, hx2, hx3 (List.length_pos_iff.mpr hpn), hx4, by (exact ob279 hx5 hpl)⟩⟩
    rw [← List.cons_append, List.map_append]; rfl
/-! W15 -/
structure ChOk (c : Chunk) : Prop where
  n : c.1.length = 4
  a : ∀ o ∈ c.1, o < 128
  o : Oct c.2
  l : c.2.length ≤ 1000
noncomputable def written (cs : List Chunk) : List Nat := signN ++ cs.flatMap chunkN
theorem chunkN_len {c : Chunk} (h : c.1.length = 4) : (chunkN c).length = 12 + c.2.length := by unfold chunkN; simp [four_len, h]; (exact ob280)
theorem ChOk.oct {c : Chunk} (h : ChOk c) : Oct (chunkN c) := by
  unfold chunkN
  exact ((four_oct _).app (Oct.app (fun o ho => by have := h.a o ho; (exact Nat.lt_of_lt_of_le this (Nat.le_add_left _ _))) h.o)).app (four_oct _)
theorem flat_len : ∀ {cs : List Chunk}, (∀ c ∈ cs, ChOk c) → (cs.flatMap chunkN).length ≤ 1012 * cs.length
  | [], _ => Nat.le_refl _
  | c :: r, h => by
    have h1 := h c (.head _)
    rw [List.flatMap_cons, List.length_append, chunkN_len h1.n, List.length_cons]
    have := flat_len fun x hx => h x (.tail _ hx)
    have := h1.l
    (grind)
theorem written_len {cs : List Chunk} (h : ∀ c ∈ cs, ChOk c) : (written cs).length ≤ 8 + 1012 * cs.length := by
  unfold written; rw [List.length_append]; have := flat_len h; show 8 + _ ≤ _; (exact ob281 this)
theorem written_oct {cs : List Chunk} (h : ∀ c ∈ cs, ChOk c) : Oct (written cs) := by
  unfold written
  refine Oct.app (fun o ho => ?_) fun o ho => ?_
  · simp only [signN, List.mem_cons, List.not_mem_nil, or_false] at ho; (exact ob282 ho)
  · obtain ⟨c, hc, ho⟩ := List.mem_flatMap.mp ho; exact (h c hc).oct o ho
theorem written_snoc (cs : List Chunk) (c : Chunk) : written (cs ++ [c]) = written cs ++ chunkN c := by unfold written; rw [List.flatMap_append]; simp
theorem I_range {l : List Nat} (h : Oct l) : ∀ n ∈ I l, 0 ≤ n ∧ n < 256 := fun n hn => by
  obtain ⟨o, ho, rfl⟩ := List.mem_map.mp hn; have := h o ho; (exact ob283 this)
set_option maxHeartbeats 4000000 in
theorem fn_written {B : Bs} (st : Stat B) {cs : List Chunk} {flt : Bool} (h : ∀ c ∈ cs, ChOk c) (hz : cs.length ≤ 20) : FnP B "_law_written" 5 flt [.list (cs.map ltD)] (fun d => d = .bytes (I (written cs))) := by
  refine FnP.any (k := 32) (Δ := [("lots", .list (cs.map ltD))]) (ns := ["lots"]) st (by rfl) (Binds.one (by decide) fun fd v hp h1 h2 => by obtain ⟨⟩ := fd; subst hp h1 h2; rfl) rfl (by decide +kernel) fun A L fa cd fr hfr => ?_
  refine Ex.cons (Ex1.assign (Ev.mono (K' := fun d μ1 => d = .list (N signN) ∧ μ1 = []) ?_ ?_) (.inl (by rfl)))
  · refine Ev.list ?_
    refine EvL.cons ?_
    refine Ev.kint ?_
    refine EvL.cons ?_
    refine Ev.kint ?_
    refine EvL.cons ?_
    refine Ev.kint ?_
    refine EvL.cons ?_
    refine Ev.kint ?_
    refine EvL.cons ?_
    refine Ev.kint ?_
    refine EvL.cons ?_
    refine Ev.kint ?_
    refine EvL.cons ?_
    refine Ev.kint ?_
    refine EvL.cons ?_
    refine Ev.kint ?_
    refine EvL.nil ?_
    exact ⟨rfl, by decide, rfl, rfl⟩
  rintro d μ1 ⟨rfl, rfl⟩
  refine Ex.cons (Ex1.for_ (EvIter.data (Ev.name (by rfl) ⟨_, rfl, ?_⟩)))
  refine ForK.inv (σ := Unit) (fun j _ => [("found", .list (N (written (cs.take j))))]) (fun j _ => []) (fun _ _ => True) () trivial (.cons (by rfl) .nil) rfl (fun j _ d hj _ => ?_) fun _ Δ _ hs => ?_
  · obtain ⟨c, hc, rfl⟩ : ∃ c, cs[j]? = some c ∧ d = ltD c := by
      rw [List.getElem?_map] at hj
      cases e : cs[j]? with
      | none => rw [e] at hj; cases hj
      | some c => rw [e] at hj; cases hj; exact ⟨c, rfl, rfl⟩
    have hk := h c (List.mem_of_getElem? hc)
    have hwl := written_len (cs := cs.take j) fun x hx => h x (List.mem_of_mem_take hx)
    rw [List.length_take] at hwl
    refine ⟨_, .pair _ _ _ _ _ _ _ _ (.inl (by rfl)) (.inl (by rfl)), fun r => ?_⟩
    refine Ex.cons (Ex1.assign (Ev.binop (Ev.name (by rfl) ?_)) (.inl (by rfl)))
    refine Ev.call (n := 3) (k := 28) (flt := false) ?_ (hn := Nat.le_of_ble_eq_true rfl)
    refine EvL.cons ?_
    refine Ev.name (by rfl) ?_
    refine EvL.cons ?_
    refine Ev.name (by rfl) ?_
    refine EvL.nil ?_
    refine ⟨rfl, (fn_chunk st hk.a hk.o (by rw [hk.n]; decide) (by have := hk.l; (exact Nat.le_trans this (Nat.le_add_left _ _)))).mono fun d hd => ?_⟩
    subst hd
    refine Op.addl (by rw [N_len, N_len, chunkN_len hk.n]; have := hk.l; show _ + (12 + c.2.length) ≤ _; (exact ob284 hwl this hz)) ?_
    rw [← N_app, show (written (cs.take j) ++ chunkN (c.1, c.2)) = written (cs.take (j + 1)) by rw [List.take_add_one, hc]; exact (written_snoc _ _).symm]
    exact Ex.nil ⟨(), trivial, .cons (by rfl) .nil, rfl⟩
  · rw [List.length_map, List.take_length] at hs
    have hwl := written_len h
    refine Ex.weak ?_ hs
    refine Ex.cons (Ex1.ret (Ev.toBytes (Ev.name (by rfl) ?_)))
    exact ⟨I (written cs), I_N.symm, I_range (written_oct h), by rw [I_len]; (exact ob285 hwl hz), rfl, rfl⟩
/-! W16 -/
inductive Turned (w h : Nat) (rows : Pic) (rest : List Chunk) (wr : List Nat) : List Nat → Prop
  | sign (i : Nat) (hi : i < 8) : Turned w h rows rest wr (wr.set i 0)
  | octet (p v : Nat) (h1 : 12 ≤ p) (h2 : p < 33) (hv : v < 256) (hne : wr.getD p 0 ≠ v) : Turned w h rows rest wr (wr.set p v)
  | cut (k : Nat) (hk : k < 11) : Turned w h rows rest wr (wr.take (wr.length - 1 - k))
  | head (p v : Nat) (hpv : (p, v) ∈ [(8, 16), (9, 2), (10, 1), (11, 1), (12, 1), (7, h + 1)]) : Turned w h rows rest wr (written ((IHDR, (headN w h).set p v) :: rest))
  | more (c : Chunk) (hc : c ∈ [(IEND, []), (IDAT, []), (tEXt, [])]) : Turned w h rows rest wr (written ((IHDR, headN w h) :: rest ++ [c]))
  | twice : Turned w h rows rest wr (written ((IHDR, headN w h) :: (IHDR, headN w h) :: rest))
  | less (ls : List Chunk) (hl : ls = rest ∨ ls = ((IHDR, headN w h) :: rest).dropLast ∨ ls = ((IHDR, headN w h) :: rest).filter (fun c => decide (c.1 ≠ IDAT)) ∨ ls = []) : Turned w h rows rest wr (written ls)
  | long : Turned w h rows rest wr (written ((IHDR, headN w h ++ [0]) :: rest))
  | filt : Turned w h rows rest wr (written [(IHDR, headN w h), (IDAT, strm (flatR 5 rows)), (IEND, [])])
theorem N_set (l : List Nat) (i v : Nat) : (N l).set i (.int (v : Nat)) = N (l.set i v) := by unfold N; rw [List.map_set]
theorem Oct.set {l : List Nat} (h : Oct l) (i : Nat) {v : Nat} (hv : v < 256) : Oct (l.set i v) := fun o ho => by
  rcases List.mem_or_eq_of_mem_set ho with h1 | h1
  · exact h o h1
  · (exact Nat.lt_of_le_of_lt (Nat.le_of_eq h1) hv)
theorem pair_mem {l : List (Nat × Nat)} {d : D} (h : d ∈ l.map fun p => D.tuple [.int (p.1 : Nat), .int (p.2 : Nat)]) : ∃ p v, (p, v) ∈ l ∧ d = .tuple [.int (p : Nat), .int (v : Nat)] := by
  obtain ⟨⟨p, v⟩, hp, rfl⟩ := List.mem_map.mp h
  exact ⟨p, v, hp, rfl⟩
theorem headN_len (w h : Nat) : (headN w h).length = 13 := rfl
theorem sl_init {α : Type} (l : List α) (h : l ≠ []) : sl l none (some (-1)) = l.dropLast := by
  have hp := List.length_pos_iff.mpr h
  have : clipAt l.length (-1) = l.length - 1 := by unfold clipAt; rw [if_pos (by decide)]; (exact ob286)
  unfold sl
  simp only [Option.elim, this]
  rw [List.dropLast_eq_take]; simp
theorem ltD_tree (cs : List Chunk) : (cs.map ltD).all D.tree = true := by rw [List.all_eq_true]; intro d h; obtain ⟨c, _, rfl⟩ := List.mem_map.mp h; rfl
theorem FnS.ofK {B : Bs} {f : Str} {k n : Nat} {m : MO} {ds : List D} {Δ : DE} {P : D → MO → Prop} (st : Stat B) (hk : fnTab.lookup f = some k) (hb : Binds B k (.obj 0 :: ds) Δ) {ns : List Str} (hns : Δ.map (·.1) = ns) (hg : goodNames k ns = true)
    (body : ∀ A L fa cd (Kr : D → List MO → Prop), (∀ d m' r, d.tree = true → m'.live = true → P d m' → Kr d (m' :: r)) → Ex B (actF A k f L fa cd none n) Δ [m] (fx k).2.1 (fun _ _ => False) Kr) : FnS B f (n + 1) m ds P :=
  .of st hk hb hns hg fun A L fa cd => body A L fa cd _ fun _ m' r t l p => ⟨t, m', r, rfl, l, p⟩
set_option maxHeartbeats 4000000 in
theorem fn_turned {B : Bs} (st : Stat B) {m : MO} {w h : Nat} {rows : Pic} {rest : List Chunk} {wr : List Nat} (hm : SrcM m) (hp : PicOk w h rows) (hw : w ≤ 3) (hh : h ≤ 2) (hc : ∀ c ∈ rest, ChOk c) (hz : rest.length ≤ 10)
    (hwo : Oct wr) (hw33 : 33 ≤ wr.length) (hwz : wr.length ≤ 100000) :
    FnS B "_law_turned" 7 m [.list (((IHDR, headN w h) :: rest).map ltD), .list (rows.map rowE), .bytes (I wr)] (fun d m' => SrcM m' ∧ ∃ ns, d = .bytes (I ns) ∧ Turned w h rows rest wr ns) := by
  refine FnS.ofK (k := 33) (Δ := [("source", .obj 0), ("lots", .list (((IHDR, headN w h) :: rest).map ltD)), ("rows", .list (rows.map rowE)), ("written", .bytes (I wr))]) (ns := ["source", "lots", "rows", "written"]) st (by rfl) (Binds.four (by decide) fun fd u v w t hp h1 h2 => by obtain ⟨⟩ := fd; subst hp h1 h2; rfl) rfl (by decide +kernel) fun A L fa cd Kr hK => ?_
  have hIl : (I wr).length = wr.length := I_len
  have hNl : (N wr).length = wr.length := N_len
  refine Ex.cons (Ex1.asgTup (names := ["way", "octets"]) ?_ (by rfl) (by intro x hx; simp at hx; rcases hx with rfl | rfl <;> exact .inl (by rfl)) (by decide))
  refine EvL.cons (Ev.callS (n := 1) (k := 24) (by rfl) ?_ (hn := Nat.le_of_ble_eq_true rfl))
  refine EvL.cons ?_
  refine Ev.kint ?_
  refine EvL.nil ?_
  refine ⟨rfl, m, [], rfl, hm.live, (take_ok st hm (by decide) (by decide)).mono fun d m1 hd => ?_⟩
  obtain ⟨hm1, t, rfl, ht⟩ := hd
  refine EvL.cons (Ev.toListM (Ev.name (by rfl) ?_))
  refine ⟨by (exact ob287 hIl hwz), ?_⟩
  rw [I_N]
  refine EvL.nil ⟨rfl, ?_⟩
  refine Ex.cons (Ex1.ife (EvB.cmp (Ev.name (by rfl) (Ev.kint (Op.eq ⟨_, rfl, ?_⟩))) (by rfl)))
  refine ite_beq (fun _ => ?_) fun n0 => ?_
  · -- the sign
    refine Ex.cons (Ex1.setitem (i := 1) (by rfl) (Ev.kint ?_))
    refine Ev.callS (n := 1) (k := 24) (by rfl) ?_ (hn := Nat.le_of_ble_eq_true rfl)
    refine EvL.cons ?_
    refine Ev.kint ?_
    refine EvL.nil ?_
    refine ⟨rfl, _, _, rfl, hm1.live, (take_ok st hm1 (by decide) (by decide)).mono fun d m2 hd => ?_⟩
    obtain ⟨hm2, i, rfl, hi⟩ := hd
    refine ⟨_, _, rfl, rfl, rfl, by (exact Int.natCast_nonneg _), by (exact ob288 hNl hw33 hi), by (exact ob289 hNl hwz), ?_⟩
    rw [Int.toNat_natCast, show N wr = N wr from rfl, show (D.int 0) = .int ((0 : Nat) : Int) from rfl, N_set]
    refine Ex.cons (Ex1.ret (Ev.toBytes (Ev.freeze (by rfl) (by rfl) ?_)))
    have ho := hwo.set i (v := 0) (by decide)
    exact ⟨I (wr.set i 0), I_N.symm, I_range ho, by rw [I_len, List.length_set]; (exact Nat.le_trans hwz (Nat.le_add_left _ _)), hK _ m2 _ rfl hm2.live ⟨hm2, _, rfl, .sign i (by (exact Int.ofNat_lt.mp hi))⟩⟩
  refine Ex.nil ?_
  refine Ex.cons (Ex1.ife (EvB.cmp (Ev.name (by rfl) (Ev.kint (Op.eq ⟨_, rfl, ?_⟩))) (by rfl)))
  refine ite_beq (fun _ => ?_) fun n1 => ?_
  · -- an octet
    refine Ex.cons (Ex1.assign (Ev.binop (Ev.kint ?_)) (.inl (by rfl)))
    refine Ev.callS (n := 1) (k := 24) (by rfl) ?_ (hn := Nat.le_of_ble_eq_true rfl)
    refine EvL.cons ?_
    refine Ev.binop ?_
    refine Ev.kint ?_
    refine Ev.kint ?_
    refine Op.sub ?_
    refine EvL.nil ?_
    refine ⟨rfl, _, _, rfl, hm1.live, (take_ok st hm1 (by decide) (by decide)).mono fun d m2 hd => ?_⟩
    obtain ⟨hm2, i, rfl, hi⟩ := hd
    refine Op.add ?_
    have ei : 12 + (i : Int) = ((12 + i : Nat) : Int) := by (rfl)
    rw [ei]
    generalize hpp : 12 + i = p at *
    have hpw : p < wr.length := by (exact ob290 hw33 hpp hi)
    refine Ex.cons (Ex1.setitem (i := 1) (by rfl) ?_)
    refine Ev.binop ?_
    refine Ev.binop ?_
    refine Ev.binop ?_
    refine Ev.item ?_
    refine Ev.name (by rfl) ?_
    refine Ev.name (by rfl) ?_
    refine ⟨N wr, .int (wr.getD p 0 : Nat), rfl, by rw [pyGet_nat]; exact N_of (by rw [List.getElem?_eq_getElem hpw, List.getElem_eq_getD 0]), by (exact ob289 hNl hwz), ?_⟩
    refine Ev.kint ?_
    refine Op.add ?_
    refine Ev.callS (n := 1) (k := 24) (by rfl) ?_ (hn := Nat.le_of_ble_eq_true rfl)
    refine EvL.cons ?_
    refine Ev.kint ?_
    refine EvL.nil ?_
    refine ⟨rfl, _, _, rfl, hm2.live, (take_ok st hm2 (by decide) (by decide)).mono fun d m3 hd => ?_⟩
    obtain ⟨hm3, e, rfl, he⟩ := hd
    have hb := hwo.getD p
    have ev : ((wr.getD p 0 : Nat) + 1 + (e : Int)) % 256 = (((wr.getD p 0 + 1 + e) % 256 : Nat) : Int) := by (exact ob291)
    refine Op.add ?_
    refine Ev.kint ?_
    refine Op.mod (by (exact Int.natCast_nonneg _)) ?_
    refine Ev.name (by rfl) ?_
    refine ⟨_, _, rfl, rfl, rfl, by (exact Int.natCast_nonneg _), by (exact ob292 hNl hpw), by (exact ob289 hNl hwz), ?_⟩
    rw [Int.toNat_natCast, ev, N_set]
    refine Ex.cons (Ex1.ret (Ev.toBytes (Ev.freeze (by rfl) (by rfl) ?_)))
    have ho := hwo.set p (v := (wr.getD p 0 + 1 + e) % 256) (by (exact ob293))
    exact ⟨I (wr.set p _), I_N.symm, I_range ho, by rw [I_len, List.length_set]; (exact Nat.le_trans hwz (Nat.le_add_left _ _)), hK _ m3 _ rfl hm3.live ⟨hm3, _, rfl, .octet p _ (by (exact ob294 hpp)) (by (exact ob295 hpp hi)) (by (exact ob293)) (by (exact ob296 he))⟩⟩
  refine Ex.nil ?_
  refine Ex.cons (Ex1.ife (EvB.cmp (Ev.name (by rfl) (Ev.kint (Op.eq ⟨_, rfl, ?_⟩))) (by rfl)))
  refine ite_beq (fun _ => ?_) fun n2 => ?_
  · -- cut
    refine Ex.cons (Ex1.ret (Ev.toBytes (Ev.cut ?_)))
    refine Ev.name (by rfl) ?_
    refine EvP.none ?_
    refine EvP.some ?_
    refine Ev.binop ?_
    refine Ev.binop ?_
    refine Ev.len ?_
    refine Ev.name (by rfl) ?_
    refine ⟨_, rfl, by first | (exact ob297 hNl hwz) | (simp only [List.length_cons, List.length_nil, List.length_map, List.length_append]; omega) | (simp; done) | decide, ?_⟩
    refine Ev.kint ?_
    refine Op.sub ?_
    refine Ev.callS (n := 1) (k := 24) (by rfl) ?_ (hn := Nat.le_of_ble_eq_true rfl)
    refine EvL.cons ?_
    refine Ev.kint ?_
    refine EvL.nil ?_
    refine ⟨rfl, _, _, rfl, hm1.live, (take_ok st hm1 (by decide) (by decide)).mono fun d m2 hd => ?_⟩
    obtain ⟨hm2, k, rfl, hk⟩ := hd
    refine Op.sub ⟨_, rfl, ?_⟩
    have e : ((N wr).length : Int) - 1 - (k : Int) = ((wr.length - 1 - k : Nat) : Int) := by (exact ob298 hNl hw33 hk)
    rw [e]
    refine ⟨N wr, rfl, by (exact ob287 hNl hwz), ?_⟩
    rw [sl_N, sl_to]
    refine ⟨I (wr.take (wr.length - 1 - k)), congrArg D.list I_N.symm |> D.list.inj, I_range (hwo.take _), by rw [I_len, List.length_take]; (exact ob299 hwz), hK _ m2 _ rfl hm2.live ⟨hm2, _, rfl, .cut k (by (exact Int.ofNat_lt.mp hk))⟩⟩
  refine Ex.nil ?_
  have hch : ChOk (IHDR, headN w h) := ⟨rfl, (by show ∀ o ∈ IHDR, o < 128; decide), ((four_oct _).app (four_oct _)).app (fun o ho => by simp only [List.mem_cons, List.not_mem_nil, or_false] at ho; (exact ob300 ho)), by show 13 ≤ 1000; decide⟩
  refine Ex.cons (Ex1.ife (EvB.cmp (Ev.name (by rfl) (Ev.kint (Op.eq ⟨_, rfl, ?_⟩))) (by rfl)))
  refine ite_beq (fun _ => ?_) fun n3 => ?_
  · -- the head
    have hrw : rows.length = h := hp.h
    refine Ex.cons (Ex1.assign (Ev.toListM ?_) (.inl (by rfl)))
    refine Ev.item ?_
    refine Ev.item ?_
    refine Ev.name (by rfl) ?_
    refine Ev.kint ?_
    refine ⟨_, rfl, by first | omega | (simp only [List.length_cons, List.length_nil, List.length_map, List.length_append]; (exact ob301 hz)) | (simp; done) | decide, ?_⟩
    refine Ev.kint ?_
    refine ⟨.list (N (headN w h)), rfl, by show 2 < _; decide, ?_⟩
    refine ⟨by show 13 ≤ 16777216; decide, ?_⟩
    refine Ex.cons (Ex1.asgTupD [("place", _), ("value", _)] ?_ (by intro x hx; simp at hx; rcases hx with rfl | rfl <;> exact .inl (by rfl)))
    refine Ev.callS (n := 3) (k := 25) (by rfl) ?_ (hn := Nat.le_of_ble_eq_true rfl)
    refine EvL.cons ?_
    refine Ev.list ?_
    refine EvL.cons ?_
    refine Ev.tuple ?_
    refine EvL.cons ?_
    refine Ev.kint ?_
    refine EvL.cons ?_
    refine Ev.kint ?_
    refine EvL.nil ?_
    refine ⟨rfl, by show 2 ≤ 16777216; decide, ?_⟩
    refine EvL.cons ?_
    refine Ev.tuple ?_
    refine EvL.cons ?_
    refine Ev.kint ?_
    refine EvL.cons ?_
    refine Ev.kint ?_
    refine EvL.nil ?_
    refine ⟨rfl, by show 2 ≤ 16777216; decide, ?_⟩
    refine EvL.cons ?_
    refine Ev.tuple ?_
    refine EvL.cons ?_
    refine Ev.kint ?_
    refine EvL.cons ?_
    refine Ev.kint ?_
    refine EvL.nil ?_
    refine ⟨rfl, by show 2 ≤ 16777216; decide, ?_⟩
    refine EvL.cons ?_
    refine Ev.tuple ?_
    refine EvL.cons ?_
    refine Ev.kint ?_
    refine EvL.cons ?_
    refine Ev.kint ?_
    refine EvL.nil ?_
    refine ⟨rfl, by show 2 ≤ 16777216; decide, ?_⟩
    refine EvL.cons ?_
    refine Ev.tuple ?_
    refine EvL.cons ?_
    refine Ev.kint ?_
    refine EvL.cons ?_
    refine Ev.kint ?_
    refine EvL.nil ?_
    refine ⟨rfl, by show 2 ≤ 16777216; decide, ?_⟩
    refine EvL.cons ?_
    refine Ev.tuple ?_
    refine EvL.cons ?_
    refine Ev.kint ?_
    refine EvL.cons ?_
    refine Ev.binop ?_
    refine Ev.len ?_
    refine Ev.name (by rfl) ?_
    refine ⟨by first | omega | (simp only [List.length_cons, List.length_nil, List.length_map, List.length_append]; (exact ob302 hrw hh)) | (simp; done) | decide, ?_⟩
    refine Ev.kint ?_
    refine Op.add ?_
    refine EvL.nil ?_
    refine ⟨rfl, by show 2 ≤ 16777216; decide, EvL.nil ⟨rfl, by show 6 ≤ 16777216; decide, ?_⟩⟩
    have el : [D.tuple [D.int 8, D.int 16], D.tuple [D.int 9, D.int 2], D.tuple [D.int 10, D.int 1], D.tuple [D.int 11, D.int 1], D.tuple [D.int 12, D.int 1], D.tuple [D.int 7, D.int (((rows.map rowE).length : Nat) + 1)]]
        = ([(8, 16), (9, 2), (10, 1), (11, 1), (12, 1), (7, h + 1)] : List (Nat × Nat)).map fun p => D.tuple [.int (p.1 : Nat), .int (p.2 : Nat)] := by rw [List.length_map, hrw]; rfl
    rw [el]
    refine EvL.nil ⟨rfl, _, _, rfl, hm1.live, (fn_one st hm1 (by rw [List.length_map]; exact Nat.succ_pos _) (by rw [List.length_map]; exact Nat.le_of_ble_eq_true rfl) (fun d hd => by obtain ⟨p, v, _, rfl⟩ := pair_mem hd; rfl)).mono fun d m2 hd => ?_⟩
    obtain ⟨hm2, hd⟩ := hd
    obtain ⟨p, v, hpv, rfl⟩ := pair_mem hd
    have hb : p < 13 ∧ v < 256 := by
      simp only [List.mem_cons, List.not_mem_nil, or_false, Prod.mk.injEq] at hpv; (exact ob303 hpv hh)
    refine ⟨_, rfl, rfl, ?_⟩
    refine Ex.cons (Ex1.setitem (i := 2) (by rfl) (Ev.name (by rfl) (Ev.name (by rfl) ?_)))
    refine ⟨_, _, rfl, rfl, rfl, by (exact Int.natCast_nonneg _), by rw [N_len, headN_len]; (exact ob304 hb), by rw [N_len, headN_len]; decide, ?_⟩
    rw [Int.toNat_natCast, N_set]
    have hch' : ChOk (IHDR, (headN w h).set p v) := ⟨hch.n, hch.a, hch.o.set p hb.2, by show ((headN w h).set p v).length ≤ 1000; rw [List.length_set]; exact hch.l⟩
    refine Ex.cons (Ex1.ret ?_)
    refine Ev.call (n := 5) (k := 32) (flt := false) (EvL.cons (Ev.binop ?_)) (hn := Nat.le_of_ble_eq_true rfl)
    refine Ev.list (EvL.cons (Ev.tuple (EvL.cons (Ev.kstr (EvL.cons (Ev.freeze (by rfl) (by rfl) (EvL.nil ⟨rfl, by show 2 ≤ 16777216; decide, EvL.nil ⟨rfl, by show 1 ≤ 16777216; decide, ?_⟩⟩)))))))
    refine Ev.cut ?_
    refine Ev.name (by rfl) ?_
    refine EvP.some ?_
    refine Ev.kint ?_
    refine ⟨_, rfl, ?_⟩
    refine EvP.none ?_
    refine ⟨by first | omega | (simp only [List.length_cons, List.length_nil, List.length_map, List.length_append]; (exact Nat.lt_of_le_of_lt hz (Nat.le_of_ble_eq_true rfl))) | (simp; done) | decide, ?_⟩
    rw [show sl (((IHDR, headN w h) :: rest).map ltD) (some 1) none = rest.map ltD from sl_from _ 1]
    refine Op.addl (by rw [List.length_map]; show 1 + _ ≤ _; (exact ob305 hz)) ?_
    refine EvL.nil ⟨rfl, ?_⟩
    show FnP B _ _ _ [.list (((IHDR, (headN w h).set p v) :: rest).map ltD)] _
    refine (fn_written st (fun c hx => ?_) (by rw [List.length_cons]; (exact Nat.lt_of_le_of_lt hz (Nat.le_of_ble_eq_true rfl)))).mono fun d hd => ?_
    · rcases List.mem_cons.mp hx with rfl | hx
      · exact hch'
      · exact hc c hx
    subst hd
    exact hK _ m2 _ rfl hm2.live ⟨hm2, _, rfl, .head p v hpv⟩
  refine Ex.nil ?_
  refine Ex.cons (Ex1.ife (EvB.cmp (Ev.name (by rfl) (Ev.kint (Op.eq ⟨_, rfl, ?_⟩))) (by rfl)))
  refine ite_beq (fun _ => ?_) fun n4 => ?_
  · -- one more
    refine Ex.cons (Ex1.ret ?_)
    refine Ev.call (n := 5) (k := 32) (flt := false) (EvL.cons (Ev.binop (Ev.name (by rfl) ?_))) (hn := Nat.le_of_ble_eq_true rfl)
    refine Ev.list (EvL.cons ?_)
    refine Ev.callS (n := 3) (k := 25) (by rfl) ?_ (hn := Nat.le_of_ble_eq_true rfl)
    refine EvL.cons ?_
    refine Ev.list ?_
    refine EvL.cons ?_
    refine Ev.tuple ?_
    refine EvL.cons ?_
    refine Ev.kstr ?_
    refine EvL.cons ?_
    refine Ev.list ?_
    refine EvL.nil ?_
    refine ⟨rfl, Nat.le_of_ble_eq_true rfl, ?_⟩
    refine EvL.nil ?_
    refine ⟨rfl, Nat.le_of_ble_eq_true rfl, ?_⟩
    refine EvL.cons ?_
    refine Ev.tuple ?_
    refine EvL.cons ?_
    refine Ev.kstr ?_
    refine EvL.cons ?_
    refine Ev.list ?_
    refine EvL.nil ?_
    refine ⟨rfl, Nat.le_of_ble_eq_true rfl, ?_⟩
    refine EvL.nil ?_
    refine ⟨rfl, Nat.le_of_ble_eq_true rfl, ?_⟩
    refine EvL.cons ?_
    refine Ev.tuple ?_
    refine EvL.cons ?_
    refine Ev.kstr ?_
    refine EvL.cons ?_
    refine Ev.list ?_
    refine EvL.nil ?_
    refine ⟨rfl, Nat.le_of_ble_eq_true rfl, ?_⟩
    refine EvL.nil ?_
    refine ⟨rfl, Nat.le_of_ble_eq_true rfl, ?_⟩
    refine EvL.nil ?_
    refine ⟨rfl, Nat.le_of_ble_eq_true rfl, ?_⟩
    refine EvL.nil ⟨rfl, _, _, rfl, hm1.live, ?_⟩
    show FnS B _ _ _ [.list (([(IEND, []), (IDAT, []), (tEXt, [])] : List Chunk).map ltD)] _
    refine (fn_one st hm1 (by decide) (by decide) (fun d hd => by obtain ⟨c, _, rfl⟩ := List.mem_map.mp hd; rfl)).mono fun d m2 hd => ?_
    obtain ⟨hm2, hd⟩ := hd
    obtain ⟨c, hcm, rfl⟩ := List.mem_map.mp hd
    have hcc : ChOk c := by
      simp only [List.mem_cons, List.not_mem_nil, or_false] at hcm
      rcases hcm with rfl | rfl | rfl <;> exact ⟨rfl, by decide, (fun _ h => nomatch h), Nat.zero_le _⟩
    refine EvL.nil ⟨rfl, Nat.le_of_ble_eq_true rfl, ?_⟩
    refine Op.addl (by rw [List.length_map, List.length_cons]; show _ + 1 ≤ _; (exact ob306 hz)) ?_
    refine EvL.nil ⟨rfl, ?_⟩
    rw [show (((IHDR, headN w h) :: rest).map ltD ++ [ltD c]) = (((IHDR, headN w h) :: rest) ++ [c]).map ltD by rw [List.map_append]; rfl]
    refine (fn_written st (fun c' hx => ?_) (by rw [List.length_append, List.length_cons]; show _ + 1 ≤ _; (exact ob307 hz))).mono fun d hd => ?_
    · rcases List.mem_append.mp hx with hx | hx
      · rcases List.mem_cons.mp hx with rfl | hx
        · exact hch
        · exact hc c' hx
      · rw [List.mem_singleton] at hx; subst hx; exact hcc
    subst hd
    exact hK _ m2 _ rfl hm2.live ⟨hm2, _, rfl, .more c hcm⟩
  refine Ex.nil ?_
  refine Ex.cons (Ex1.ife (EvB.cmp (Ev.name (by rfl) (Ev.kint (Op.eq ⟨_, rfl, ?_⟩))) (by rfl)))
  refine ite_beq (fun _ => ?_) fun n5 => ?_
  · -- twice the head
    refine Ex.cons (Ex1.ret ?_)
    refine Ev.call (n := 5) (k := 32) (flt := false) (EvL.cons (Ev.binop ?_)) (hn := Nat.le_of_ble_eq_true rfl)
    refine Ev.list ?_
    refine EvL.cons ?_
    refine Ev.item ?_
    refine Ev.name (by rfl) ?_
    refine Ev.kint ?_
    refine ⟨_, rfl, by first | omega | (simp only [List.length_cons, List.length_nil, List.length_map, List.length_append]; (exact ob301 hz)) | (simp; done) | decide, ?_⟩
    refine EvL.nil ?_
    refine ⟨rfl, Nat.le_of_ble_eq_true rfl, ?_⟩
    refine Ev.name (by rfl) ?_
    refine Op.addl (by first | omega | (simp only [List.length_cons, List.length_nil, List.length_map, List.length_append]; (exact ob308 hz)) | (simp; done) | decide) ?_
    refine EvL.nil ?_
    refine ⟨rfl, ?_⟩
    show FnP B _ _ _ [.list (((IHDR, headN w h) :: (IHDR, headN w h) :: rest).map ltD)] _
    refine (fn_written st (fun c hx => ?_) (by rw [List.length_cons, List.length_cons]; (exact ob307 hz))).mono fun d hd => ?_
    · rcases List.mem_cons.mp hx with rfl | hx
      · exact hch
      · rcases List.mem_cons.mp hx with rfl | hx
        · exact hch
        · exact hc c hx
    subst hd
    exact hK _ m1 _ rfl hm1.live ⟨hm1, _, rfl, .twice⟩
  refine Ex.nil ?_
  refine Ex.cons (Ex1.ife (EvB.cmp (Ev.name (by rfl) (Ev.kint (Op.eq ⟨_, rfl, ?_⟩))) (by rfl)))
  refine ite_beq (fun _ => ?_) fun n6 => ?_
  · -- fewer chunks
    refine Ex.cons (Ex1.ret ?_)
    refine Ev.call (n := 5) (k := 32) (flt := false) (EvL.cons ?_) (hn := Nat.le_of_ble_eq_true rfl)
    refine Ev.callS (n := 3) (k := 25) (by rfl) (EvL.cons ?_) (hn := Nat.le_of_ble_eq_true rfl)
    refine Ev.list ?_
    refine EvL.cons ?_
    refine Ev.cut ?_
    refine Ev.name (by rfl) ?_
    refine EvP.some ?_
    refine Ev.kint ?_
    refine ⟨_, rfl, ?_⟩
    refine EvP.none ?_
    refine ⟨by first | omega | (simp only [List.length_cons, List.length_nil, List.length_map, List.length_append]; (exact Nat.lt_of_le_of_lt hz (Nat.le_of_ble_eq_true rfl))) | (simp; done) | decide, ?_⟩
    refine EvL.cons ?_
    refine Ev.cut ?_
    refine Ev.name (by rfl) ?_
    refine EvP.none ?_
    refine EvP.some ?_
    refine Ev.neg ?_
    refine Ev.kint ?_
    refine ⟨_, rfl, ?_⟩
    refine ⟨_, rfl, ?_⟩
    refine ⟨by first | omega | (simp only [List.length_cons, List.length_nil, List.length_map, List.length_append]; (exact Nat.lt_of_le_of_lt hz (Nat.le_of_ble_eq_true rfl))) | (simp; done) | decide, ?_⟩
    refine EvL.cons ?_
    generalize hL : (IHDR, headN w h) :: rest = lots at *
    have hll : lots.length ≤ 11 := by rw [← hL, List.length_cons]; (exact Nat.lt_succ_of_le hz)
    have hlc : ∀ c ∈ lots, ChOk c := fun c hx => by
      rw [← hL] at hx
      rcases List.mem_cons.mp hx with rfl | hx
      · exact hch
      · exact hc c hx
    refine Ev.comp1 (cl := []) (Δin := []) (EvIter.data (Ev.name (by rfl) ⟨_, rfl, fun L' => ?_⟩)) (by rfl) trivial trivial (by rfl)
    refine LastK.inv (σ := Unit) ["lot"] (fun _ _ => [m1, .list (N wr)]) (fun _ _ => True) (fun j _ => ((lots.take j).filter fun c => decide (c.1 ≠ IDAT)).map ltD) () trivial rfl rfl .refl (fun j _ hj _ => ?_) (fun j _ d hd _ => ?_) fun _ Δ _ _ => ?_
    · rw [List.length_map]
      have : ((lots.take j).filter fun c => decide (c.1 ≠ IDAT)).length ≤ (lots.take j).length := List.length_filter_le ..
      rw [List.length_take] at this
      (exact ob309 this hll)
    · obtain ⟨c, hcj, rfl⟩ : ∃ c, lots[j]? = some c ∧ d = ltD c := by
        rw [List.getElem?_map] at hd
        cases e : lots[j]? with
        | none => rw [e] at hd; cases hd
        | some c => rw [e] at hd; cases hd; exact ⟨c, rfl, rfl⟩
      have hst : ((lots.take (j + 1)).filter fun c => decide (c.1 ≠ IDAT)) = ((lots.take j).filter fun c => decide (c.1 ≠ IDAT)) ++ if c.1 = IDAT then [] else [c] := by
        rw [List.take_add_one, hcj, List.filter_append]; congr 1
        by_cases h : c.1 = IDAT <;> simp [h]
      refine ⟨_, .name _ _ _ (.inl (by rfl)), rfl, fun r => ?_⟩
      show EvB B _ _ _ _ _
      refine EvB.cmp ?_ (by rfl)
      refine Ev.item ?_
      refine Ev.name (by rfl) ?_
      refine Ev.kint ?_
      refine ⟨.str (nm c.1), rfl, by show 2 < _; decide, ?_⟩
      refine Ev.kstr ?_
      refine Op.nes ?_
      refine ⟨_, rfl, ?_⟩
      rw [show Str.ofString "IDAT" = nm IDAT from rfl, nm_bne]
      refine ite_b (fun h => ?_) fun h => ?_
      · refine Ev.name (by rfl) ?_
        refine ⟨rfl, (), trivial, rfl, ?_⟩
        rw [hst, if_neg (by simpa using h), List.map_append]; rfl
      · refine ⟨(), trivial, rfl, ?_⟩
        rw [hst, if_pos (by simpa using h), List.append_nil]
    rw [List.length_map, List.take_length]
    refine EvL.cons ?_
    refine Ev.list ?_
    refine EvL.nil ?_
    refine ⟨rfl, Nat.le_of_ble_eq_true rfl, ?_⟩
    refine EvL.nil ?_
    refine ⟨rfl, Nat.le_of_ble_eq_true rfl, ?_⟩
    refine EvL.nil ?_
    rw [show sl (lots.map ltD) (some 1) none = (lots.drop 1).map ltD by rw [show sl (lots.map ltD) (some 1) none = (lots.map ltD).drop 1 from sl_from _ 1, List.map_drop],
      show sl (lots.map ltD) none (some (-1)) = lots.dropLast.map ltD by rw [sl_init _ (by rw [← hL]; simp), List.map_dropLast]]
    refine ⟨rfl, m1, _, rfl, hm1.live, ?_⟩
    show FnS B _ _ _ [.list (([lots.drop 1, lots.dropLast, lots.filter (fun c => decide (c.1 ≠ IDAT)), []] : List (List Chunk)).map fun q => D.list (q.map ltD))] _
    refine (fn_one st hm1 (by rw [List.length_map]; exact Nat.succ_pos _) (by rw [List.length_map]; exact Nat.le_of_ble_eq_true rfl) (fun d hd => by obtain ⟨c, _, rfl⟩ := List.mem_map.mp hd; rfl)).mono fun d m2 hd => ?_
    obtain ⟨hm2, hd⟩ := hd
    obtain ⟨q, hq, rfl⟩ := List.mem_map.mp hd
    have hq' : q.length ≤ 11 ∧ ∀ c ∈ q, c ∈ lots := by
      simp only [List.mem_cons, List.not_mem_nil, or_false] at hq
      rcases hq with rfl | rfl | rfl | rfl
      · exact ⟨by rw [List.length_drop]; (exact Nat.le_trans (Nat.sub_le _ _) hll), fun c h => List.mem_of_mem_drop h⟩
      · exact ⟨by rw [List.length_dropLast]; (exact Nat.le_trans (Nat.sub_le _ _) hll), fun c h => List.dropLast_subset _ h⟩
      · exact ⟨Nat.le_trans (List.length_filter_le ..) hll, fun c h => (List.mem_filter.mp h).1⟩
      · exact ⟨Nat.zero_le _, fun c h => nomatch h⟩
    refine EvL.nil ⟨rfl, (fn_written st (fun c hx => hlc c (hq'.2 c hx)) (by (exact ob310 hq'))).mono fun d hd => ?_⟩
    subst hd
    refine hK _ m2 _ rfl hm2.live ⟨hm2, _, rfl, .less q ?_⟩
    simp only [List.mem_cons, List.not_mem_nil, or_false] at hq
    rw [hL]
    rcases hq with rfl | rfl | rfl | rfl
    · exact .inl (by rw [← hL]; rfl)
    · exact .inr (.inl rfl)
    · exact .inr (.inr (.inl rfl))
    · exact .inr (.inr (.inr rfl))
  refine Ex.nil ?_
  refine Ex.cons (Ex1.ife (EvB.cmp (Ev.name (by rfl) (Ev.kint (Op.eq ⟨_, rfl, ?_⟩))) (by rfl)))
  refine ite_beq (fun _ => ?_) fun n7 => ?_
  · -- a head too long
    refine Ex.cons (Ex1.ret ?_)
    refine Ev.call (n := 5) (k := 32) (flt := false) (EvL.cons (Ev.binop ?_)) (hn := Nat.le_of_ble_eq_true rfl)
    refine Ev.list (EvL.cons (Ev.tuple (EvL.cons (Ev.kstr (EvL.cons ?_)))))
    refine Ev.binop ?_
    refine Ev.item ?_
    refine Ev.item ?_
    refine Ev.name (by rfl) ?_
    refine Ev.kint ?_
    refine ⟨_, rfl, by first | omega | (simp only [List.length_cons, List.length_nil, List.length_map, List.length_append]; (exact ob301 hz)) | (simp; done) | decide, ?_⟩
    refine Ev.kint ?_
    refine ⟨.list (N (headN w h)), rfl, by show 2 < _; decide, ?_⟩
    refine Ev.list ?_
    refine EvL.cons ?_
    refine Ev.kint ?_
    refine EvL.nil ?_
    refine ⟨rfl, Nat.le_of_ble_eq_true rfl, ?_⟩
    refine Op.addl (by show 13 + 1 ≤ 16777216; decide) ?_
    refine EvL.nil ⟨rfl, Nat.le_of_ble_eq_true rfl, EvL.nil ⟨rfl, Nat.le_of_ble_eq_true rfl, ?_⟩⟩
    refine Ev.cut ?_
    refine Ev.name (by rfl) ?_
    refine EvP.some ?_
    refine Ev.kint ?_
    refine ⟨_, rfl, ?_⟩
    refine EvP.none ?_
    refine ⟨by first | omega | (simp only [List.length_cons, List.length_nil, List.length_map, List.length_append]; (exact Nat.lt_of_le_of_lt hz (Nat.le_of_ble_eq_true rfl))) | (simp; done) | decide, ?_⟩
    rw [show sl (((IHDR, headN w h) :: rest).map ltD) (some 1) none = rest.map ltD from sl_from _ 1]
    refine Op.addl (by rw [List.length_map]; show 1 + _ ≤ _; (exact ob305 hz)) ?_
    refine EvL.nil ⟨rfl, ?_⟩
    rw [show N (headN w h) ++ [D.int 0] = N (headN w h ++ [0]) by rw [N_app]; rfl]
    show FnP B _ _ _ [.list (((IHDR, headN w h ++ [0]) :: rest).map ltD)] _
    refine (fn_written st (fun c hx => ?_) (by rw [List.length_cons]; (exact Nat.lt_of_le_of_lt hz (Nat.le_of_ble_eq_true rfl)))).mono fun d hd => ?_
    · rcases List.mem_cons.mp hx with rfl | hx
      · exact ⟨hch.n, hch.a, hch.o.app (fun o ho => by rw [List.mem_singleton] at ho; (exact ob311 ho)), by show 14 ≤ 1000; decide⟩
      · exact hc c hx
    subst hd
    exact hK _ m1 _ rfl hm1.live ⟨hm1, _, rfl, .long⟩
  refine Ex.nil ?_
  have hfl := hp.len (k := 5)
  have hfo := hp.oct (k := 5) (by decide)
  have hfm : h * (1 + 4 * w) ≤ 26 := Nat.le_trans (Nat.mul_le_mul_right _ hh) (by (exact ob261 hw))
  refine Ex.cons (Ex1.asgComp2 (cl := []) (Δin := []) (EvIter.data (Ev.name (by rfl) ⟨_, rfl, fun L' => ?_⟩)) (by rfl) (.inl (by rfl)) (by rfl) trivial trivial (by rfl))
  refine TwoK.pureI (rowIts 5) (by rw [rows_flat, N_len, List.length_nil]; (exact ob262 hfl hfm)) (fun d hd => ?_) fun Δ' => ?_
  · obtain ⟨r, hr, rfl⟩ := List.mem_map.mp hd
    have hrl : r.flatten.length ≤ 12 := by rw [flat4 fun c hc => (hp.c r hr c hc).1, hp.w r hr]; (exact ob263 hw)
    refine ⟨_, .name _ _ _ (.inl (by rfl)), fun Δ' q => EvIter.data (Ev.binop ?_), fun e he => ?_⟩
    · refine Ev.list ?_
      refine EvL.cons ?_
      refine Ev.kint ?_
      refine EvL.nil ?_
      refine ⟨rfl, by decide, ?_⟩
      refine Ev.comp2 (cl := []) (Δin := []) (EvIter.data (Ev.name (by rfl) ⟨_, rfl, fun L' => ?_⟩)) (by rfl) trivial trivial (by rfl)
      refine TwoK.pureI tupD (by rw [tup_flat, N_len, List.length_nil]; (exact ob264 hrl)) (fun d hd => ?_) fun Δ' => ?_
      · obtain ⟨c, hc, rfl⟩ := List.mem_map.mp hd
        refine ⟨_, .name _ _ _ (.inl (by rfl)), fun Δ' q => EvIter.data (Ev.name (by rfl) ⟨_, rfl, rfl, rfl⟩), fun e he => ?_⟩
        obtain ⟨n, _, rfl⟩ := List.mem_map.mp he
        refine ⟨_, .name _ _ _ (.inl (by rfl)), fun Δ' q => Ev.name (by rfl) ⟨rfl, rfl, rfl⟩⟩
      · rw [tup_flat, List.nil_append]
        refine Op.addl (by rw [N_len]; show 1 + _ ≤ _; (exact ob265 hrl)) ⟨_, rfl, ?_, rfl⟩
        show _ = _ :: _
        rw [tup_flat]; rfl
    · obtain ⟨n, rfl⟩ : ∃ n : Nat, e = .int (n : Nat) := by
        have : e ∈ N (5 :: r.flatten) := by
          have q : rowIts 5 (rowE r) = N (5 :: r.flatten) := by show _ :: _ = _; rw [tup_flat]; rfl
          rw [← q]; exact he
        obtain ⟨n, _, rfl⟩ := List.mem_map.mp this; exact ⟨n, rfl⟩
      refine ⟨_, .name _ _ _ (.inl (by rfl)), fun Δ' q => Ev.name (by rfl) ⟨rfl, rfl, rfl⟩⟩
  rw [rows_flat, List.nil_append]
  have hsl := strm_len (flatR 5 rows)
  have hso : Oct (strm (flatR 5 rows)) := strm_oct hfo (by (exact ob267 hfl hfm))
  refine Ex.cons (Ex1.ret ?_)
  refine Ev.call (n := 5) (k := 32) (flt := false) (EvL.cons ?_) (hn := Nat.le_of_ble_eq_true rfl)
  refine Ev.list ?_
  refine EvL.cons ?_
  refine Ev.item ?_
  refine Ev.name (by rfl) ?_
  refine Ev.kint ?_
  refine ⟨_, rfl, by first | omega | (simp only [List.length_cons, List.length_nil, List.length_map, List.length_append]; (exact ob301 hz)) | (simp; done) | decide, ?_⟩
  refine EvL.cons ?_
  refine Ev.tuple ?_
  refine EvL.cons ?_
  refine Ev.kstr ?_
  refine EvL.cons ?_
  refine Ev.call (n := 3) (k := 29) (flt := false) ?_ (hn := Nat.le_of_ble_eq_true rfl)
  refine EvL.cons ?_
  refine Ev.name (by rfl) ?_
  refine EvL.nil ?_
  refine ⟨rfl, (fn_stream st hfo (by (exact ob266 hfl hfm))).mono fun d hd => ?_⟩
  subst hd
  refine EvL.nil ?_
  refine ⟨rfl, Nat.le_of_ble_eq_true rfl, ?_⟩
  refine EvL.cons ?_
  refine Ev.tuple ?_
  refine EvL.cons ?_
  refine Ev.kstr ?_
  refine EvL.cons ?_
  refine Ev.list ?_
  refine EvL.nil ?_
  refine ⟨rfl, Nat.le_of_ble_eq_true rfl, ?_⟩
  refine EvL.nil ?_
  refine ⟨rfl, Nat.le_of_ble_eq_true rfl, ?_⟩
  refine EvL.nil ?_
  refine ⟨rfl, Nat.le_of_ble_eq_true rfl, ?_⟩
  refine EvL.nil ⟨rfl, ?_⟩
  show FnP B _ _ _ [.list (([(IHDR, headN w h), (IDAT, strm (flatR 5 rows)), (IEND, [])] : List Chunk).map ltD)] _
  refine (fn_written st (fun c hx => ?_) (Nat.le_of_ble_eq_true rfl)).mono fun d hd => ?_
  · simp only [List.mem_cons, List.not_mem_nil, or_false] at hx
    rcases hx with rfl | rfl | rfl
    · exact hch
    · exact ⟨rfl, (by show ∀ o ∈ IDAT, o < 128; decide), hso, by show (strm _).length ≤ _; (exact ob312 hfl hsl hfm)⟩
    · exact ⟨rfl, (by show ∀ o ∈ IEND, o < 128; decide), (fun _ h => nomatch h), Nat.zero_le _⟩
  subst hd
  exact hK _ m1 _ rfl hm1.live ⟨hm1, _, rfl, .filt⟩
/-! M2 -/
theorem crc_oct {c : Chunk} (h : ChOk c) : Oct (c.1 ++ c.2) := Oct.app (fun o ho => by have := h.a o ho; (exact Nat.lt_of_lt_of_le this (Nat.le_add_left _ _))) h.o
theorem crc_lt {c : Chunk} (h : ChOk c) : crcN (c.1 ++ c.2) < 4294967296 := crcN_lt (crc_oct h)
theorem told_eq (x a y r : List Nat) (hx : x.length = 4) : ((x ++ a ++ y ++ r).drop 4).take a.length = a := by
  rw [List.append_assoc, List.append_assoc, ← hx, List.drop_left, List.take_left]
theorem rest_eq (x a y r : List Nat) (n : Nat) (hn : n = x.length + a.length + y.length) : (x ++ a ++ y ++ r).drop n = r := by
  subst hn
  rw [show x.length + a.length + y.length = (x ++ a ++ y).length by simp; (exact Nat.add_assoc _ _ _), List.drop_left]
theorem pgo_chunk {c : Chunk} (h : ChOk c) (r : List Nat) : pgo (chunkN c ++ r) = (pgo r).map (c :: ·) := by
  have hl := chunkN_len h.n
  have hcl := h.l
  have hw : word (chunkN c ++ r) 0 = c.2.length := by
    have := word_four [] ((c.1 ++ c.2) ++ four (crcN (c.1 ++ c.2)) ++ r) (n := c.2.length) (by (exact ob313 hcl))
    refine Eq.trans ?_ this
    unfold chunkN; simp
  have htl : (c.1 ++ c.2).length = 4 + c.2.length := by rw [List.length_append, h.n]
  have ht : ((chunkN c ++ r).drop 4).take (4 + c.2.length) = c.1 ++ c.2 := by
    have := told_eq (four c.2.length) (c.1 ++ c.2) (four (crcN (c.1 ++ c.2))) r rfl
    rw [htl] at this; exact this
  have hk : word (chunkN c ++ r) (8 + c.2.length) = crcN (c.1 ++ c.2) := by
    have := word_four (four c.2.length ++ (c.1 ++ c.2)) r (crc_lt h)
    rw [List.length_append, htl, four_len, show 4 + (4 + c.2.length) = 8 + c.2.length by (exact ob314)] at this
    exact this
  have hr : (chunkN c ++ r).drop (12 + c.2.length) = r := rest_eq _ _ _ _ _ (by rw [htl, four_len, four_len]; (exact ob315))
  have hn : (chunkN c ++ r).length = 12 + c.2.length + r.length := by rw [List.length_append, hl]
  rw [pgo_step (l := chunkN c ++ r) (fun e => by have := congrArg List.length e; rw [hn] at this; simp at this) (by (exact ob316 hn)) hw (by (exact ob317 hn)) ht hk rfl, if_neg (by simp), hr]
  rw [show (c.1 ++ c.2).take 4 = c.1 by rw [← h.n, List.take_left], show (c.1 ++ c.2).drop 4 = c.2 by rw [← h.n, List.drop_left]]
theorem pgo_flat : ∀ {cs : List Chunk} (r : List Nat), (∀ c ∈ cs, ChOk c) → pgo (cs.flatMap chunkN ++ r) = (pgo r).map (cs ++ ·)
  | [], r, _ => by simp
  | c :: cs, r, h => by
    rw [List.flatMap_cons, List.append_assoc, pgo_chunk (h c (.head _)), pgo_flat r fun x hx => h x (.tail _ hx), Option.map_map]
    rfl
theorem pgo_nil : pgo [] = some [] := by rw [pgo_eq, if_pos rfl]
theorem parse_app (cs : List Chunk) (r : List Nat) (h : ∀ c ∈ cs, ChOk c) : parse (written cs ++ r) = (pgo r).map (cs ++ ·) := by
  unfold parse written
  rw [List.append_assoc, if_pos (by rfl), ← pgo_flat r h]; rfl
theorem parse_written {cs : List Chunk} (h : ∀ c ∈ cs, ChOk c) : parse (written cs) = some cs := by
  have := parse_app cs [] h
  rw [List.append_nil, pgo_nil] at this
  simpa using this
theorem strm_inj {a b : List Nat} (h : strm a = strm b) : a = b := by
  have hl : a.length = b.length := by have := congrArg List.length h; rw [strm_len, strm_len] at this; (exact ob318 this)
  have := strm_mid a
  rw [h, hl, strm_mid b] at this; exact this.symm
theorem headN_w {w h : Nat} (hw : w ≤ 3) : word (headN w h) 0 = w := word_four [] (four h ++ [8, 6, 0, 0, 0]) (by (exact Nat.lt_of_le_of_lt hw (Nat.le_of_ble_eq_true rfl)))
theorem headN_h {w h : Nat} (hh : h ≤ 3) : word (headN w h) 4 = h := word_four (four w) [8, 6, 0, 0, 0] (by (grind))
theorem mid_ne {c : Chunk} (h : MidC c) : c.1 ≠ IHDR ∧ c.1 ≠ IEND := by
  rcases h.n with e | e | e <;> rw [e] <;> exact ⟨by decide, by decide⟩
theorem mid_count {mid : List Chunk} (h : ∀ c ∈ mid, MidC c) : (mid.map (·.1)).count IHDR = 0 ∧ (mid.map (·.1)).count IEND = 0 := by
  constructor
  · rw [List.count_eq_zero]; intro hm; obtain ⟨c, hc, e⟩ := List.mem_map.mp hm; exact (mid_ne (h c hc)).1 e
  · rw [List.count_eq_zero]; intro hm; obtain ⟨c, hc, e⟩ := List.mem_map.mp hm; exact (mid_ne (h c hc)).2 e
theorem chk_ok {hd : List Nat} {mid : List Chunk} (h13 : hd.length = 13) (h8 : hd.drop 8 = [8, 6, 0, 0, 0]) (hi : IDAT ∈ mid.map (·.1)) (hm : ∀ c ∈ mid, MidC c) : Chk ((IHDR, hd) :: (mid ++ [(IEND, [])])) := by
  have hc := mid_count hm
  refine ⟨⟨_, _, rfl, rfl, h13, h8⟩, ⟨(IEND, []), (IHDR, hd) :: mid, rfl, rfl⟩, ?_, ?_, ?_⟩
  · rw [List.map_cons, List.map_append]; exact .tail _ (List.mem_append_left _ hi)
  · rw [List.map_cons, List.map_append, List.count_cons, List.count_append, hc.1]; show 0 + [IEND].count IHDR + (if (IHDR == IHDR) = true then 1 else 0) ≤ 1; decide
  · rw [List.map_cons, List.map_append, List.count_cons, List.count_append, hc.2]; show 0 + [IEND].count IEND + (if (IHDR == IEND) = true then 1 else 0) ≤ 1; decide

/-- the picture as it was written, and a turned one -/
structure Lots (w h : Nat) (rows : Pic) (rest mid : List Chunk) : Prop where
  r : rest = mid ++ [(IEND, [])]
  i : idat mid = strm (flatR 0 rows)
  m : IDAT ∈ mid.map (·.1)
  c : ∀ c ∈ mid, MidC c
  l : mid.length ≤ 6
  p : PicOk w h rows
  w1 : 1 ≤ w
  w3 : w ≤ 3
  h1 : 1 ≤ h
  h2 : h ≤ 2
theorem mid_ch {c : Chunk} (h : MidC c) : ChOk c := by
  refine ⟨?_, ?_, h.o, h.l⟩ <;> rcases h.n with e | e | e <;> rw [e] <;> decide
theorem head_ch {w h : Nat} : ChOk (IHDR, headN w h) := ⟨rfl, (by show ∀ o ∈ IHDR, o < 128; decide), ((four_oct _).app (four_oct _)).app (fun o ho => by simp only [List.mem_cons, List.not_mem_nil, or_false] at ho; (exact ob300 ho)), by show 13 ≤ 1000; decide⟩
theorem iend_ch : ChOk (IEND, []) := ⟨rfl, (by show ∀ o ∈ IEND, o < 128; decide), (fun _ h => nomatch h), Nat.zero_le _⟩
section
variable {w h : Nat} {rows : Pic} {rest mid : List Chunk} (L : Lots w h rows rest mid)
include L
theorem Lots.rest_ch : ∀ c ∈ rest, ChOk c := fun c hc => by
  rw [L.r] at hc
  rcases List.mem_append.mp hc with hc | hc
  · exact mid_ch (L.c c hc)
  · rw [List.mem_singleton] at hc; subst hc; exact iend_ch
theorem Lots.all_ch : ∀ c ∈ (IHDR, headN w h) :: rest, ChOk c := fun c hc => by
  rcases List.mem_cons.mp hc with rfl | hc
  · exact head_ch
  · exact L.rest_ch c hc
theorem Lots.idt (hd : List Nat) : idat ((IHDR, hd) :: rest) = strm (flatR 0 rows) := by
  rw [L.r, ← L.i]
  show idat ([(IHDR, hd)] ++ (mid ++ [(IEND, [])])) = _
  rw [idat_app, idat_app]
  simp [idat, idats, IHDR, IDAT, IEND]
theorem Lots.mid_ne : mid ≠ [] := fun e => by have := L.m; rw [e] at this; cases this
theorem Lots.rest_len : rest.length ≤ 7 := by rw [L.r, List.length_append]; have := L.l; show _ + 1 ≤ 7; (exact Nat.lt_succ_of_le this)
theorem Lots.good : Chk ((IHDR, headN w h) :: rest) := by rw [L.r]; exact chk_ok rfl rfl L.m L.c
theorem Lots.countI : (rest.map (·.1)).count IHDR = 0 := by rw [L.r, List.map_append, List.count_append, (mid_count L.c).1]; decide
theorem Lots.countE : (rest.map (·.1)).count IEND = 1 := by rw [L.r, List.map_append, List.count_append, (mid_count L.c).2]; decide
end
theorem pgo_end {k : Nat} (h1 : 1 ≤ k) (h : k < 12) : pgo ((chunkN (IEND, [])).take k) = none := by
  have hl : ((chunkN (IEND, [])).take k).length = k := by rw [List.length_take, chunkN_len rfl]; show min k 12 = k; (exact ob319 h)
  refine pgo_short (fun e => by rw [e] at hl; simp at hl; (exact ob320 hl h1)) (.inr (by (exact ob321 hl h)))
theorem Lots.cut {w h : Nat} {rows : Pic} {rest mid : List Chunk} (L : Lots w h rows rest mid) {k : Nat} (hk : k < 11) : parse ((written ((IHDR, headN w h) :: rest)).take ((written ((IHDR, headN w h) :: rest)).length - 1 - k)) = none := by
  have hc : ∀ c ∈ (IHDR, headN w h) :: mid, ChOk c := fun c hc => L.all_ch c (by rw [L.r]; rcases List.mem_cons.mp hc with rfl | hc; exact .head _; exact .tail _ (List.mem_append_left _ hc))
  have e : written ((IHDR, headN w h) :: rest) = written ((IHDR, headN w h) :: mid) ++ chunkN (IEND, []) := by rw [L.r, ← List.cons_append, written_snoc]
  have hl : (chunkN (IEND, [])).length = 12 := chunkN_len rfl
  rw [e, List.length_append, hl, List.take_append, List.take_of_length_le (by (exact ob322 hk)), show (written ((IHDR, headN w h) :: mid)).length + 12 - 1 - k - (written ((IHDR, headN w h) :: mid)).length = 11 - k by (exact ob323), parse_app _ _ hc, pgo_end (by (exact ob324 hk)) (by (exact ob325))]
  rfl
theorem parse_sign {l : List Nat} {i : Nat} (h : l.take 8 = signN) (hi : i < 8) : parse (l.set i 0) = none := by
  unfold parse
  rw [if_neg]
  rw [List.take_set, h]
  have : i = 0 ∨ i = 1 ∨ i = 2 ∨ i = 3 ∨ i = 4 ∨ i = 5 ∨ i = 6 ∨ i = 7 := by (exact ob326 hi)
  rcases this with rfl | rfl | rfl | rfl | rfl | rfl | rfl | rfl <;> decide
/-! M3 -/
theorem pgo_raw {n x y z t : Nat} {a r : List Nat} (hn : n < 4294967296) (ha : a.length = 4 + n) (hx : be32 x y z t ≠ crcN a) : pgo (four n ++ a ++ [x, y, z, t] ++ r) = none := by
  have hw : word (four n ++ a ++ [x, y, z, t] ++ r) 0 = n := by
    have := word_four [] (a ++ [x, y, z, t] ++ r) hn
    refine Eq.trans ?_ this
    simp
  have ht : ((four n ++ a ++ [x, y, z, t] ++ r).drop 4).take (4 + n) = a := by
    have := told_eq (four n) a [x, y, z, t] r rfl
    rw [ha] at this; exact this
  have hk : word (four n ++ a ++ [x, y, z, t] ++ r) (8 + n) = be32 x y z t := by
    have := word_mid (four n ++ a) x y z t r
    rw [List.length_append, ha, four_len, show 4 + (4 + n) = 8 + n by (exact (Nat.add_assoc _ _ _).symm)] at this
    exact this
  have hl : (four n ++ a ++ [x, y, z, t] ++ r).length = 12 + n + r.length := by
    rw [List.length_append, List.length_append, List.length_append, ha, four_len]; show 4 + (4 + n) + 4 + _ = _; (exact ob327)
  rw [pgo_step (fun e => by have := congrArg List.length e; rw [hl] at this; simp at this) (by (exact Nat.le_add_left _ _)) hw (by (exact ob317 hl)) ht hk rfl, if_pos hx]
theorem getD_app {l r : List Nat} {i : Nat} (h : i < l.length) : (l ++ r).getD i 0 = l.getD i 0 := by
  rw [List.getD_eq_getElem?_getD, List.getD_eq_getElem?_getD, List.getElem?_append_left h]
theorem getD_app2 {l r : List Nat} {i : Nat} (h : l.length ≤ i) : (l ++ r).getD i 0 = r.getD (i - l.length) 0 := by
  rw [List.getD_eq_getElem?_getD, List.getD_eq_getElem?_getD, List.getElem?_append_right h]
theorem set_app2 {l r : List Nat} {i v : Nat} (h : l.length ≤ i) : (l ++ r).set i v = l ++ r.set (i - l.length) v := List.set_append_right i v h
theorem set_app {l r : List Nat} {i v : Nat} (h : i < l.length) : (l ++ r).set i v = l.set i v ++ r := List.set_append_left i v h
theorem four_set {k i v : Nat} (hk : k < 4294967296) (hi : i < 4) (hv : v < 256) (hne : (four k).getD i 0 ≠ v) : ∃ x y z t, (four k).set i v = [x, y, z, t] ∧ be32 x y z t ≠ k := by
  have : i = 0 ∨ i = 1 ∨ i = 2 ∨ i = 3 := by (exact ob214 hi)
  rcases this with rfl | rfl | rfl | rfl
  · refine ⟨_, _, _, _, rfl, ?_⟩
    have hne : k / 16777216 % 256 ≠ v := hne
    unfold be32; (exact ob328 hne hv)
  · refine ⟨_, _, _, _, rfl, ?_⟩
    have hne : k / 65536 % 256 ≠ v := hne
    unfold be32; (exact ob329 hne hv)
  · refine ⟨_, _, _, _, rfl, ?_⟩
    have hne : k / 256 % 256 ≠ v := hne
    unfold be32; (exact ob330 hne hv)
  · refine ⟨_, _, _, _, rfl, ?_⟩
    have hne : k % 256 ≠ v := hne
    unfold be32; (exact ob331 hne hv)
theorem pgo_turned {c : Chunk} (h : ChOk c) (r : List Nat) {q v : Nat} (h1 : 4 ≤ q) (h2 : q < 12 + c.2.length) (hv : v < 256) (hne : (chunkN c).getD q 0 ≠ v) : pgo ((chunkN c).set q v ++ r) = none := by
  have hcl := h.l
  have hoc := crc_oct h
  have hlt := crc_lt h
  have htl : (c.1 ++ c.2).length = 4 + c.2.length := by rw [List.length_append, h.n]
  unfold chunkN at hne ⊢
  generalize c.1 ++ c.2 = a at *
  generalize c.2.length = n at *
  by_cases hq : q < 8 + n
  · have hla : q < (four n ++ a).length := by rw [List.length_append, four_len]; (exact ob332 htl hq)
    have hl4 : (four n).length ≤ q := h1
    rw [getD_app hla, getD_app2 hl4, four_len] at hne
    rw [set_app hla, set_app2 hl4, four_len]
    have hqa : q - 4 < a.length := by (exact ob333 htl hq)
    rw [← List.getElem_eq_getD (h := hqa)] at hne
    have hcr := crcN_set (l := a) hoc hv hqa hne
    refine pgo_raw (by (exact Nat.lt_of_le_of_lt hcl (Nat.le_of_ble_eq_true rfl))) (by rw [List.length_set]; exact htl) ?_
    rw [be32_four hlt]; exact fun e => hcr e.symm
  · have hla : (four n ++ a).length ≤ q := by rw [List.length_append, four_len]; (exact ob334 htl hq)
    rw [getD_app2 hla] at hne
    rw [set_app2 hla]
    have hil : q - (four n ++ a).length < 4 := by rw [List.length_append, four_len]; (exact ob335 htl h2)
    generalize q - (four n ++ a).length = i at *
    obtain ⟨x, y, z, t, e, hx⟩ := four_set hlt hil hv hne
    rw [e]
    exact pgo_raw (by (exact Nat.lt_of_le_of_lt hcl (Nat.le_of_ble_eq_true rfl))) htl hx
theorem Lots.octet {w h : Nat} {rows : Pic} {rest mid : List Chunk} (L : Lots w h rows rest mid) {p v : Nat} (h1 : 12 ≤ p) (h2 : p < 33) (hv : v < 256) (hne : (written ((IHDR, headN w h) :: rest)).getD p 0 ≠ v) :
    parse ((written ((IHDR, headN w h) :: rest)).set p v) = none := by
  have hl : (chunkN (IHDR, headN w h)).length = 25 := chunkN_len rfl
  have e : written ((IHDR, headN w h) :: rest) = signN ++ (chunkN (IHDR, headN w h) ++ rest.flatMap chunkN) := rfl
  have hs : signN.length ≤ p := by show 8 ≤ p; (exact Nat.le_trans (Nat.le_of_ble_eq_true rfl) h1)
  have hs8 : signN.length = 8 := rfl
  rw [e, getD_app2 hs, hs8, getD_app (by (exact ob336 hl h2))] at hne
  rw [e, set_app2 hs, hs8, set_app (by (exact ob336 hl h2))]
  have hq := pgo_turned head_ch (rest.flatMap chunkN) (q := p - 8) (by (exact ob337 h1)) (by show _ < 25; (exact ob338 h2)) hv hne
  unfold parse
  rw [if_pos (by rfl)]
  exact hq
theorem last_eq {α : Type} {a b : List α} {x y : α} (h : a ++ [x] = b ++ [y]) : x = y := by
  have := (List.append_inj' h rfl).2
  simpa using this
theorem snoc_of {α : Type} {l : List α} (h : l ≠ []) : ∃ r x, l = r ++ [x] := ⟨l.dropLast, l.getLast h, (List.dropLast_concat_getLast h).symm⟩
section
variable {w h : Nat} {rows : Pic} {rest mid : List Chunk} (L : Lots w h rows rest mid)
include L
theorem Lots.bad_head {p v : Nat} (hp : (p, v) ∈ [(8, 16), (9, 2), (10, 1), (11, 1), (12, 1)]) : ¬ Chk ((IHDR, (headN w h).set p v) :: rest) := fun q => by
  obtain ⟨c, r, e, _, _, h8⟩ := q.first
  cases e
  simp only [List.mem_cons, List.not_mem_nil, or_false, Prod.mk.injEq] at hp
  rcases hp with ⟨rfl, rfl⟩ | ⟨rfl, rfl⟩ | ⟨rfl, rfl⟩ | ⟨rfl, rfl⟩ | ⟨rfl, rfl⟩
  · exact absurd (show [16, 6, 0, 0, 0] = [8, 6, 0, 0, 0] from h8) (by decide)
  · exact absurd (show [8, 2, 0, 0, 0] = [8, 6, 0, 0, 0] from h8) (by decide)
  · exact absurd (show [8, 6, 1, 0, 0] = [8, 6, 0, 0, 0] from h8) (by decide)
  · exact absurd (show [8, 6, 0, 1, 0] = [8, 6, 0, 0, 0] from h8) (by decide)
  · exact absurd (show [8, 6, 0, 0, 1] = [8, 6, 0, 0, 0] from h8) (by decide)
theorem Lots.bad_more {c : Chunk} : ¬ Chk ((IHDR, headN w h) :: rest ++ [c]) := fun q => by
  obtain ⟨c', r, e, h1⟩ := q.last
  have : c = c' := last_eq e
  subst this
  have h2 := q.oneE
  rw [List.map_append, List.count_append, List.map_cons, List.count_cons, L.countE, List.map_singleton, h1] at h2
  have : [IEND].count IEND = 1 := by decide
  (exact ob339 this h2)
theorem Lots.bad_twice : ¬ Chk ((IHDR, headN w h) :: (IHDR, headN w h) :: rest) := fun q => by
  have h2 := q.one
  rw [List.map_cons, List.map_cons, List.count_cons, List.count_cons] at h2
  simp at h2
theorem Lots.bad_less {ls : List Chunk} (hl : ls = rest ∨ ls = ((IHDR, headN w h) :: rest).dropLast ∨ ls = ((IHDR, headN w h) :: rest).filter (fun c => decide (c.1 ≠ IDAT)) ∨ ls = []) : ¬ Chk ls := fun q => by
  rcases hl with rfl | rfl | rfl | rfl
  · obtain ⟨c, r, e, h1, _⟩ := q.first
    obtain ⟨x, y, hxy⟩ : ∃ x y, mid = x :: y := by
      cases hm : mid with
      | nil => exact absurd hm L.mid_ne
      | cons x y => exact ⟨x, y, rfl⟩
    rw [L.r, hxy, List.cons_append] at e
    cases e
    exact (Mine.mid_ne (L.c c (by rw [hxy]; exact .head _))).1 h1
  · have hd : ((IHDR, headN w h) :: rest).dropLast = (IHDR, headN w h) :: mid := by rw [L.r, ← List.cons_append, List.dropLast_concat]
    rw [hd] at q
    obtain ⟨c, r, e, h1⟩ := q.last
    obtain ⟨r', x, hx⟩ := snoc_of L.mid_ne
    rw [hx, ← List.cons_append] at e
    have := last_eq e
    subst this
    exact (Mine.mid_ne (L.c x (by rw [hx]; simp))).2 h1
  · obtain ⟨c, hc, e⟩ := List.mem_map.mp q.has
    have := (List.mem_filter.mp hc).2
    simp at this
    exact this e
  · obtain ⟨c, r, e, _⟩ := q.first
    cases e
theorem Lots.bad_long : ¬ Chk ((IHDR, headN w h ++ [0]) :: rest) := fun q => by
  obtain ⟨c, r, e, _, h13, _⟩ := q.first
  cases e
  exact absurd (show 14 = 13 from h13) (by decide)
end
/-! W17 -/
theorem rowD_flat : ∀ {r : List (List Nat)}, (∀ c ∈ r, c.length = 4) → rowD r.flatten r.length = rowE r := by
  have key : ∀ (r : List (List Nat)), (∀ c ∈ r, c.length = 4) → (List.range r.length).map (fun x => D.tuple (N ((r.flatten.drop (4 * x)).take 4))) = r.map fun c => .tuple (N c) := by
    intro r
    induction r with
    | nil => intro _; rfl
    | cons c r ih =>
      intro h
      have hc := h c (.head _)
      rw [List.length_cons, List.range_succ_eq_map, List.map_cons, List.map_map, List.map_cons, ← ih fun x hx => h x (.tail _ hx)]
      congr 1
      · rw [List.flatten_cons, Nat.mul_zero, List.drop_zero, ← hc, List.take_left]
      · refine List.map_congr_left fun x _ => ?_
        show D.tuple (N (((c :: r).flatten.drop (4 * (x + 1))).take 4)) = _
        rw [List.flatten_cons, show 4 * (x + 1) = c.length + 4 * x by (exact ob340 hc), ← List.drop_drop, List.drop_left]
  intro r h
  unfold rowD rowE
  rw [key r h]
theorem rowsD_flat (k : Nat) : ∀ {rows : Pic} {w : Nat}, (∀ r ∈ rows, r.length = w ∧ ∀ c ∈ r, c.length = 4) → rowsD (flatR k rows) w rows.length = rows.map rowE := by
  intro rows w
  unfold rowsD
  induction rows with
  | nil => intro _; rfl
  | cons r rows ih =>
    intro h
    have hr := h r (.head _)
    have hfl : r.flatten.length = 4 * w := by rw [flat4 hr.2, hr.1]
    have e : flatR k (r :: rows) = (k :: r.flatten) ++ flatR k rows := by unfold flatR; rw [List.flatMap_cons]
    rw [List.length_cons, List.range_succ_eq_map, List.map_cons, List.map_map, List.map_cons, ← ih fun x hx => h x (.tail _ hx)]
    congr 1
    · rw [← rowD_flat hr.2, hr.1]
      unfold rowN
      rw [e, Nat.zero_mul, Nat.zero_add]
      congr 1
      show ((r.flatten ++ flatR k rows).take (4 * w)) = _
      rw [← hfl, List.take_left]
    · refine List.map_congr_left fun y _ => ?_
      show rowD (rowN _ w (y + 1)) w = _
      congr 1
      unfold rowN
      have hl : (k :: r.flatten).length = 1 + 4 * w := by rw [List.length_cons, hfl]; (exact Nat.add_comm _ _)
      rw [e, show (y + 1) * (1 + 4 * w) + 1 = (k :: r.flatten).length + (y * (1 + 4 * w) + 1) by rw [hl, Nat.add_mul y 1]; (exact ob341), ← List.drop_drop, List.drop_left]
theorem filt_flat (k : Nat) : ∀ {rows : Pic} {w : Nat}, (∀ r ∈ rows, r.length = w ∧ ∀ c ∈ r, c.length = 4) → ∀ y, y < rows.length → (flatR k rows).getD (y * (1 + 4 * w)) 0 = k := by
  intro rows w
  induction rows with
  | nil => intro _ y h; cases h
  | cons r rows ih =>
    intro h y hy
    have hr := h r (.head _)
    have hfl : r.flatten.length = 4 * w := by rw [flat4 hr.2, hr.1]
    have e : flatR k (r :: rows) = (k :: r.flatten) ++ flatR k rows := by unfold flatR; rw [List.flatMap_cons]
    have hl : (k :: r.flatten).length = 1 + 4 * w := by rw [List.length_cons, hfl]; (exact Nat.add_comm _ _)
    rw [e]
    cases y with
    | zero => rw [Nat.zero_mul]; rfl
    | succ y =>
      rw [getD_app2 (by rw [hl, Nat.add_mul y 1]; (exact ob342)), hl, show (y + 1) * (1 + 4 * w) - (1 + 4 * w) = y * (1 + 4 * w) by rw [Nat.add_mul y 1]; (exact ob343)]
      exact ih (fun x hx => h x (.tail _ hx)) y (by rw [List.length_cons] at hy; (exact Nat.le_of_lt_succ hy))
theorem PicOk.each {w h : Nat} {rows : Pic} (p : PicOk w h rows) : ∀ r ∈ rows, r.length = w ∧ ∀ c ∈ r, c.length = 4 := fun r hr => ⟨p.w r hr, fun c hc => (p.c r hr c hc).1⟩
theorem fn_read {B : Bs} (st : Stat B) {ns : List Nat} {flt : Bool} {P : D → Prop} (hP : ∀ d, P d → d.tree = true) (c : FnC B "read_png" 7 flt [.bytes (I ns)] P) : FnQ B "_law_read" 9 [.bytes (I ns)] (fun d => P d ∨ flt = true ∧ d = .none) := by
  refine FnQ.of (k := 34) (Δ := [("octets", .bytes (I ns))]) (ns := ["octets"]) st (by rfl) (Binds.one (by decide) fun fd v hp h1 h2 => by obtain ⟨⟩ := fd; subst hp h1 h2; rfl) rfl (by decide +kernel) fun A L fa cd l => ?_
  refine ExQ.one (Ex1Q.tryCall (l := l) (n := 7) (k := 21) (flt := flt) (by rfl) rfl (c.mono fun d hd => ⟨hP d hd, .inl hd⟩) (fun hf => ⟨rfl, .inr ⟨hf, rfl⟩⟩) rfl rfl rfl (hn := Nat.le_of_ble_eq_true rfl))
theorem FnQ.mono {B : Bs} {f : Str} {n : Nat} {ds : List D} {P P' : D → Prop} (h : FnQ B f n ds P) (k : ∀ d, P d → P' d) : FnQ B f n ds P' := by
  obtain ⟨fa, o, fd, h1, h2, h3, h4⟩ := h
  exact ⟨fa, o, fd, h1, h2, h3, fun A hA r C s vs b ci rv hf R hR => h4 A hA r C s vs b ci rv hf R (fun v d C' s' p => hR v d C' s' (k d p))⟩
section
variable {w h : Nat} {rows : Pic} {rest mid : List Chunk}
theorem fn_read_good {B : Bs} (st : Stat B) (L : Lots w h rows rest mid) : FnQ B "_law_read" 9 [.bytes (I (written ((IHDR, headN w h) :: rest)))] (fun d => d = .tuple [.int (w : Nat), .int (h : Nat), .list (rows.map rowE)]) := by
  have hp := parse_written L.all_ch
  have hl := written_len L.all_ch
  have hrl := L.rest_len
  rw [List.length_cons] at hl
  have hd := L.p.len (k := 0)
  have w3 := L.w3
  have h2 := L.h2
  have hfm : h * (1 + 4 * w) ≤ 26 := Nat.le_trans (Nat.mul_le_mul_right _ L.h2) (by (exact ob261 w3))
  have hfil := filt_flat 0 L.p.each
  rw [L.p.h] at hfil
  have q := fn_read_png st (flt := false) (written_oct L.all_ch) (by (exact ob344 hl hrl))
    (fun cs e _ => by
      rw [hp] at e; cases e
      exact ⟨w, h, flatR 0 rows, headN_w L.w3, headN_h (by (exact Nat.le_succ_of_le h2)), L.idt _, L.p.oct (by decide), by (exact ob267 hd hfm), L.w1, L.w3, L.h1, by (exact Nat.le_succ_of_le h2), fun _ => hd, fun _ => .inl hfil⟩)
    (fun _ => ⟨_, hp, L.good⟩)
  refine (fn_read st (fun d ⟨_, _, _, _, _, e⟩ => by rw [e]; rfl) q).mono fun d hd => ?_
  rcases hd with ⟨cs, w', h', data, P, rfl⟩ | ⟨h, _⟩
  · have e := P.pp
    rw [hp] at e; cases e
    have e1 : w = w' := (headN_w L.w3).symm.trans P.ww
    have e2 : h = h' := (headN_h (w := w) (by (exact Nat.le_succ_of_le h2))).symm.trans P.hh
    have e3 : flatR 0 rows = data := strm_inj ((L.idt _).symm.trans P.ii)
    subst e1 e2 e3
    have er := rowsD_flat 0 L.p.each
    rw [L.p.h] at er
    rw [er]
  · cases h
/-- what a turned picture is read as -/
theorem fn_read_bad {B : Bs} (st : Stat B) {ns : List Nat} (L : Lots w h rows rest mid) (ht : Turned w h rows rest (written ((IHDR, headN w h) :: rest)) ns) : FnQ B "_law_read" 9 [.bytes (I ns)] (fun d => d = .none) := by
  have hl := written_len L.all_ch
  have hrl := L.rest_len
  rw [List.length_cons] at hl
  have w3 := L.w3
  have h2 := L.h2
  have ho := written_oct L.all_ch
  -- no picture, or no chunks that are right
  have no : ∀ {ns : List Nat}, Oct ns → ns.length ≤ 100000 → (∀ cs, parse ns = some cs → ¬ Chk cs) → FnQ B "_law_read" 9 [.bytes (I ns)] (fun d => d = .none) := fun {ns} ho hz hn => by
    refine (fn_read st (P := fun _ => False) (fun d h => h.elim) ((fn_read_png st (flt := true) ho (by (exact Nat.le_trans hz (Nat.le_add_left _ _))) (fun cs e c => absurd c (hn cs e)) (fun h => nomatch h)).mono fun d ⟨cs, w, h, data, P, _⟩ => hn cs P.pp P.ck)).mono fun d hd => ?_
    rcases hd with h | ⟨_, rfl⟩
    · exact h.elim
    · rfl
  have noW : ∀ cs, (∀ c ∈ cs, ChOk c) → cs.length ≤ 20 → ¬ Chk cs → FnQ B "_law_read" 9 [.bytes (I (written cs))] (fun d => d = .none) := fun cs hc hz hn =>
    no (written_oct hc) (by have := written_len hc; (exact ob345 this hz)) fun cs' e => by rw [parse_written hc] at e; cases e; exact hn
  have tl : ∀ {hd : List Nat}, Oct hd → hd.length ≤ 14 → ∀ c ∈ (IHDR, hd) :: rest, ChOk c := fun {hd} ho hz c hc => by
    rcases List.mem_cons.mp hc with rfl | hc
    · exact ⟨rfl, (by show ∀ o ∈ IHDR, o < 128; decide), ho, by show hd.length ≤ 1000; (exact Nat.le_trans hz (Nat.le_add_left _ _))⟩
    · exact L.rest_ch c hc
  cases ht with
  | sign i hi => exact no (ho.set i (by decide)) (by rw [List.length_set]; (exact ob346 hl hrl)) fun cs e => by rw [parse_sign (by rfl) hi] at e; cases e
  | octet p v h1 h2 hv hne => exact no (ho.set p hv) (by rw [List.length_set]; (exact ob346 hl hrl)) fun cs e => by rw [L.octet h1 h2 hv hne] at e; cases e
  | cut k hk => exact no (ho.take _) (by rw [List.length_take]; (exact ob347 hl hrl)) fun cs e => by rw [L.cut hk] at e; cases e
  | more c hc =>
    refine noW _ (fun x hx => ?_) (by rw [List.length_append, List.length_cons]; show _ + 1 ≤ 20; (exact ob348 hrl)) L.bad_more
    rcases List.mem_append.mp hx with hx | hx
    · exact L.all_ch x hx
    · rw [List.mem_singleton] at hx; subst hx
      simp only [List.mem_cons, List.not_mem_nil, or_false] at hc
      rcases hc with rfl | rfl | rfl <;> exact ⟨rfl, by decide, (fun _ h => nomatch h), Nat.zero_le _⟩
  | twice =>
    refine noW _ (fun x hx => ?_) (by rw [List.length_cons, List.length_cons]; (exact ob348 hrl)) L.bad_twice
    rcases List.mem_cons.mp hx with rfl | hx
    · exact head_ch
    · exact L.all_ch x hx
  | less ls hl =>
    refine noW ls (fun x hx => ?_) ?_ (L.bad_less hl)
    · rcases hl with rfl | rfl | rfl | rfl
      · exact L.rest_ch x hx
      · exact L.all_ch x (List.dropLast_subset _ hx)
      · exact L.all_ch x (List.mem_filter.mp hx).1
      · cases hx
    · rcases hl with rfl | rfl | rfl | rfl
      · (exact Nat.le_trans hrl (Nat.le_add_left _ _))
      · rw [List.length_dropLast, List.length_cons]; (exact ob349 hrl)
      · have := List.length_filter_le (fun c => decide (c.1 ≠ IDAT)) ((IHDR, headN w h) :: rest)
        rw [List.length_cons] at this; (exact ob350 this hrl)
      · exact Nat.zero_le _
  | long => exact noW _ (tl (head_ch.o.app (fun o ho => by rw [List.mem_singleton] at ho; (exact ob311 ho))) (Nat.le_refl 14)) (by rw [List.length_cons]; (exact Nat.lt_of_le_of_lt hrl (Nat.le_of_ble_eq_true rfl))) L.bad_long
  | head p v hpv =>
    by_cases h7 : (p, v) ∈ [(8, 16), (9, 2), (10, 1), (11, 1), (12, 1)]
    · have hv : v < 256 := by simp only [List.mem_cons, List.not_mem_nil, or_false, Prod.mk.injEq] at h7; (exact ob351 h7)
      exact noW _ (tl (head_ch.o.set p hv) (by rw [List.length_set]; exact Nat.le_of_ble_eq_true rfl)) (by rw [List.length_cons]; (exact Nat.lt_of_le_of_lt hrl (Nat.le_of_ble_eq_true rfl))) (L.bad_head h7)
    · have e7 : p = 7 ∧ v = h + 1 := by
        rcases List.mem_append.mp (show (p, v) ∈ [(8, 16), (9, 2), (10, 1), (11, 1), (12, 1)] ++ [(7, h + 1)] from hpv) with q | q
        · exact absurd q h7
        · have q := List.mem_singleton.mp q
          injection q with q1 q2
          exact ⟨q1, q2⟩
      obtain ⟨rfl, rfl⟩ := e7
      have eh : (headN w h).set 7 (h + 1) = headN w (h + 1) := by
        have h1 := L.h1
        have : h = 1 ∨ h = 2 := by (exact ob352 h1 h2)
        rcases this with rfl | rfl <;> rfl
      rw [eh]
      have hch := tl (hd := headN w (h + 1)) head_ch.o (Nat.le_of_ble_eq_true rfl)
      have hp := parse_written hch
      have hd := L.p.len (k := 0)
      have hfm : h * (1 + 4 * w) ≤ 26 := Nat.le_trans (Nat.mul_le_mul_right _ L.h2) (by (exact ob261 w3))
      have hlen := written_len hch
      rw [List.length_cons] at hlen
      have hne : ∀ {x : Nat}, x = h * (1 + 4 * w) → x ≠ (h + 1) * (1 + 4 * w) := fun e e' => by rw [e, Nat.add_mul h 1] at e'; (exact ob353 e')
      refine (fn_read st (P := fun _ => False) (fun d h => h.elim) ((fn_read_png st (flt := true) (written_oct hch) (by (exact ob344 hlen hrl)) (fun cs e c => ?_) (fun h => nomatch h)).mono fun d ⟨cs, w', h', data, P, _⟩ => ?_)).mono fun d hd => ?_
      · rw [hp] at e; cases e
        exact ⟨w, h + 1, flatR 0 rows, headN_w L.w3, headN_h (by (exact Nat.lt_succ_of_le h2)), L.idt _, L.p.oct (by decide), by (exact ob267 hd hfm), L.w1, L.w3, by (exact Nat.succ_pos _), by (exact Nat.lt_succ_of_le h2), (fun h => nomatch h), fun e => absurd e (hne hd)⟩
      · have e := P.pp
        rw [hp] at e; cases e
        have e1 : w = w' := (headN_w L.w3).symm.trans P.ww
        have e2 : h + 1 = h' := (headN_h (w := w) (by (exact Nat.lt_succ_of_le h2))).symm.trans P.hh
        have e3 : flatR 0 rows = data := strm_inj ((L.idt _).symm.trans P.ii)
        subst e1 e2 e3
        exact hne hd P.ll
      · rcases hd with h | ⟨_, rfl⟩
        · exact h.elim
        · rfl
  | filt =>
    have hd := L.p.len (k := 5)
    have hfm : h * (1 + 4 * w) ≤ 26 := Nat.le_trans (Nat.mul_le_mul_right _ L.h2) (by (exact ob261 w3))
    have hsl := strm_len (flatR 5 rows)
    have hch : ∀ c ∈ [(IHDR, headN w h), (IDAT, strm (flatR 5 rows)), (IEND, [])], ChOk c := fun c hx => by
      simp only [List.mem_cons, List.not_mem_nil, or_false] at hx
      rcases hx with rfl | rfl | rfl
      · exact head_ch
      · exact ⟨rfl, (by show ∀ o ∈ IDAT, o < 128; decide), strm_oct (L.p.oct (by decide)) (by (exact ob267 hd hfm)), by show (strm _).length ≤ _; (exact ob312 hd hsl hfm)⟩
      · exact iend_ch
    have hp := parse_written hch
    have hfil := filt_flat 5 L.p.each 0 (by rw [L.p.h]; exact L.h1)
    rw [Nat.zero_mul] at hfil
    have hid : idat [(IHDR, headN w h), (IDAT, strm (flatR 5 rows)), (IEND, [])] = strm (flatR 5 rows) := by simp [idat, idats, IHDR, IDAT, IEND]
    have hlen := written_len hch
    refine (fn_read st (P := fun _ => False) (fun d h => h.elim) ((fn_read_png st (flt := true) (written_oct hch) (by have : [(IHDR, headN w h), (IDAT, strm (flatR 5 rows)), (IEND, [])].length = 3 := rfl; (exact ob354 this hlen)) (fun cs e c => ?_) (fun h => nomatch h)).mono fun d ⟨cs, w', h', data, P, _⟩ => ?_)).mono fun d hd => ?_
    · rw [hp] at e; cases e
      exact ⟨w, h, flatR 5 rows, headN_w L.w3, headN_h (by (exact Nat.le_succ_of_le h2)), hid, L.p.oct (by decide), by (exact ob267 hd hfm), L.w1, L.w3, L.h1, by (exact Nat.le_succ_of_le h2), (fun h => nomatch h), fun _ => .inr ⟨rfl, hfil⟩⟩
    · have e := P.pp
      rw [hp] at e; cases e
      have e2 : h = h' := (headN_h (w := w) (by (exact Nat.le_succ_of_le h2))).symm.trans P.hh
      have e3 : flatR 5 rows = data := strm_inj (hid.symm.trans P.ii)
      subst e2 e3
      have := P.ff 0 L.h1
      rw [Nat.zero_mul, hfil] at this
      cases this
    · rcases hd with h | ⟨_, rfl⟩
      · exact h.elim
      · rfl
end
/-! W18 -/
theorem FnM.mono {B : Bs} {f : Str} {n : Nat} {ds : List D} {P P' : MO → Prop} (h : FnM B f n ds P) (k : ∀ m, P m → P' m) : FnM B f n ds P' := by
  obtain ⟨fa, o, fd, h1, h2, h3, h4⟩ := h
  exact ⟨fa, o, fd, h1, h2, h3, fun A hA r C s vs b ci rv R hR => h4 A hA r C s vs b ci rv R (fun b m C' s' p => hR b m C' s' (k m p))⟩
theorem ltD_eq (c : Chunk) : DEq 2 (ltD c) := .tuple fun d hd => by
  simp only [List.mem_cons, List.not_mem_nil, or_false] at hd
  rcases hd with rfl | rfl
  · exact .str ..
  · exact .list fun d hd => by obtain ⟨n, _, rfl⟩ := List.mem_map.mp hd; exact .int ..
theorem rowE_eq (r : List (List Nat)) : DEq 2 (rowE r) := .list fun d hd => by
  obtain ⟨c, _, rfl⟩ := List.mem_map.mp hd
  exact .tuple fun d hd => by obtain ⟨n, _, rfl⟩ := List.mem_map.mp hd; exact .int ..
theorem PicOk.snoc {w j : Nat} {rows : Pic} {r : List (List Nat)} (p : PicOk w j rows) (hw : r.length = w) (hc : ∀ c ∈ r, c.length = 4 ∧ Oct c) : PicOk w (j + 1) (rows ++ [r]) := by
  refine ⟨by rw [List.length_append, p.h]; rfl, fun x hx => ?_, fun x hx => ?_⟩
  · rcases List.mem_append.mp hx with hx | hx
    · exact p.w x hx
    · rw [List.mem_singleton] at hx; subst hx; exact hw
  · rcases List.mem_append.mp hx with hx | hx
    · exact p.c x hx
    · rw [List.mem_singleton] at hx; subst hx; exact hc
noncomputable def listD : D → D
  | .tuple [.str x, .bytes ns] => .tuple [.str x, .list (ns.map .int)]
  | d => d
set_option maxHeartbeats 8000000 in
theorem law_body {B : Bs} (st : Stat B) {A : Around} {L fa : Addr} {cd : Value} {ns : List Int} (hA : A.frames = some []) (hl : ns.length ≤ 63) (hb : ∀ n ∈ ns, Builtin.Int.intBits n ≤ 1048576) :
    ExC B (actF A 35 "law" L fa cd none 12) [("script", .list (ns.map .int))] [] (fx 35).2.1 (fun _ _ => False) (fun d _ => d.tree = true ∧ d = .bool true) := by
  have hF : (actF A 35 "law" L fa cd none 12).A.frames = some [(actF A 35 "law" L fa cd none 12).env] := Around.frames_deeper hA
  refine ExC.step (Ex1.assign ?_ (.inr ⟨by rfl, _, .tail _ (.head _), by rfl⟩))
  refine Ev.callM (n := 1) (k := 23) ?_ (hn := Nat.le_of_ble_eq_true rfl)
  refine EvL.cons ?_
  refine Ev.name (by rfl) ?_
  refine EvL.nil ?_
  refine ⟨rfl, rfl, ?_⟩
  refine FnM.mono (fn_pool st hl hb) fun m hm => ?_
  refine ExC.step (Ex1.asgTupN [("width", _), ("height", _)] ?_ (by intro x hx; simp at hx; rcases hx with rfl | rfl <;> first | exact .inl (by rfl) | exact .inr ⟨by rfl, _, .head _, by rfl⟩) (by decide))
  refine EvL.cons (Ev.binop (Ev.kint ?_))
  refine Ev.callS (n := 1) (k := 24) (by rfl) ?_ (hn := Nat.le_of_ble_eq_true rfl)
  refine EvL.cons ?_
  refine Ev.kint ?_
  refine EvL.nil ?_
  refine ⟨rfl, m, [], rfl, hm.live, (take_ok st hm (by decide) (by decide)).mono fun d m1 hd => ?_⟩
  obtain ⟨hm1, w, rfl, hw⟩ := hd
  refine Op.add (EvL.cons (Ev.binop (Ev.kint ?_)))
  refine Ev.callS (n := 1) (k := 24) (by rfl) ?_ (hn := Nat.le_of_ble_eq_true rfl)
  refine EvL.cons ?_
  refine Ev.kint ?_
  refine EvL.nil ?_
  refine ⟨rfl, m1, [], rfl, hm1.live, (take_ok st hm1 (by decide) (by decide)).mono fun d m2 hd => ?_⟩
  obtain ⟨hm2, h, rfl, hh⟩ := hd
  refine Op.add (EvL.nil ⟨rfl, ?_⟩)
  have ew : 1 + (w : Int) = ((1 + w : Nat) : Int) := by (rfl)
  have eh : 1 + (h : Int) = ((1 + h : Nat) : Int) := by (rfl)
  rw [ew, eh]
  have w1 : 1 ≤ 1 + w := by (exact Nat.le_add_right _ _)
  have w3 : 1 + w ≤ 3 := by (exact ob355 hw)
  have h1 : 1 ≤ 1 + h := by (exact Nat.le_add_right _ _)
  have h2 : 1 + h ≤ 2 := by (exact ob255 hh)
  generalize 1 + w = w at *
  generalize 1 + h = h at *
  refine ExC.step ?_
  refine Ex1.asgComp1 (cl := [("width", L + 2), ("source", L + 1)]) (Δin := [("source", .obj 0), ("width", .int (w : Nat))]) (EvIter.range (Ev.name (by rfl) ⟨_, rfl, by (exact Int.natCast_nonneg _), by (exact ob356 eh hh), fun L1 => ?_⟩)) (by rfl) (.inl (by rfl)) (by rfl) ⟨⟨by rfl, by rfl, by rfl, by rfl⟩, ⟨by rfl, by rfl, by rfl, by rfl⟩, trivial⟩ ⟨by rfl, by rfl, trivial⟩ (by rfl)
  rw [Int.toNat_natCast]
  refine LastK.inv (σ := MO × Pic) ["y"] (fun _ x => [x.1]) (fun j x => SrcM x.1 ∧ PicOk w j x.2) (fun j x => x.2.map rowE) (m2, []) ⟨hm2, rfl, (fun _ h => nomatch h), (fun _ h => nomatch h)⟩ rfl rfl .refl (fun j x hj hx => ?_) (fun j x d hd hx => ?_) fun x Δ hx _ => ?_
  · rw [rng_len] at hj
    rw [List.length_map, hx.2.h]; (exact ob357 hj eh hh)
  · obtain ⟨hj, rfl⟩ := rng_get hd
    obtain ⟨x1, x2⟩ := x
    obtain ⟨hx1, hx2⟩ := hx
    dsimp only at hx1 hx2 ⊢
    refine ⟨_, .name _ _ _ (.inl (by rfl)), rfl, fun r => ?_⟩
    show Ev B _ _ _ _ _
    refine Ev.comp1 (cl := [("source", L + 1)]) (Δin := [("source", .obj 0)]) (EvIter.range (Ev.name (by rfl) ⟨_, rfl, by (exact Int.natCast_nonneg _), by (exact ob358 ew hw), fun L2 => ?_⟩)) (by rfl) ⟨⟨by rfl, by rfl, by rfl, by rfl⟩, trivial⟩ ⟨by rfl, trivial⟩ (by rfl)
    rw [Int.toNat_natCast]
    refine LastK.inv (σ := MO × List (List Nat)) ["x"] (fun _ y => [y.1]) (fun j y => SrcM y.1 ∧ y.2.length = j ∧ ∀ c ∈ y.2, c.length = 4 ∧ Oct c) (fun j y => y.2.map fun c => D.tuple (N c)) (x1, []) ⟨hx1, rfl, (fun _ h => nomatch h)⟩ rfl rfl .refl (fun j y hj hy => ?_) (fun j y d hd hy => ?_) fun y Δ hy _ => ?_
    · rw [rng_len] at hj
      rw [List.length_map, hy.2.1]; (exact ob359 hj ew hw)
    · obtain ⟨hj, rfl⟩ := rng_get hd
      obtain ⟨y1, y2⟩ := y
      obtain ⟨hy1, hy2, hy3⟩ := hy
      dsimp only at hy1 hy2 hy3 ⊢
      refine ⟨_, .name _ _ _ (.inl (by rfl)), rfl, fun r => ?_⟩
      show Ev B _ _ _ _ _
      refine Ev.toTuple ?_
      refine Ev.comp1 (cl := [("source", L + 1)]) (Δin := [("source", .obj 0)]) (EvIter.range (Ev.kint ⟨_, rfl, by (exact Int.natCast_nonneg _), by (exact Int.natCast_nonneg _), fun L3 => ?_⟩)) (by rfl) ⟨⟨by rfl, by rfl, by rfl, by rfl⟩, trivial⟩ ⟨by rfl, trivial⟩ (by rfl)
      refine LastK.inv (σ := MO × List Nat) ["k"] (fun _ z => [z.1]) (fun j z => SrcM z.1 ∧ z.2.length = j ∧ Oct z.2) (fun j z => N z.2) (y1, []) ⟨hy1, rfl, (fun _ h => nomatch h)⟩ rfl rfl .refl (fun j z hj hz => ?_) (fun j z d hd hz => ?_) fun z Δ hz _ => ?_
      · rw [rng_len] at hj
        rw [N_len, hz.2.1]; exact Nat.le_trans (Nat.le_of_lt hj) (by decide)
      · obtain ⟨hj, rfl⟩ := rng_get hd
        obtain ⟨z1, z2⟩ := z
        obtain ⟨hz1, hz2, hz3⟩ := hz
        dsimp only at hz1 hz2 hz3 ⊢
        refine ⟨_, .name _ _ _ (.inl (by rfl)), rfl, fun r => ?_⟩
        show Ev B _ _ _ _ _
        refine Ev.callS (n := 1) (k := 24) (by rfl) ?_ (hn := Nat.le_of_ble_eq_true rfl)
        refine EvL.cons ?_
        refine Ev.kint ?_
        refine EvL.nil ?_
        refine ⟨rfl, _, _, rfl, hz1.live, (take_ok st hz1 (by decide) (by decide)).mono fun d m' hd => ?_⟩
        obtain ⟨hm', t, rfl, ht⟩ := hd
        refine ⟨rfl, (m', z2 ++ [t]), ⟨hm', by simp [hz2], hz3.app fun o ho => by rw [List.mem_singleton] at ho; (exact ob273 ho ht)⟩, rfl, ?_⟩
        rw [N_app]; rfl
      obtain ⟨z1, z2⟩ := z
      obtain ⟨hz1, hz2, hz3⟩ := hz
      rw [rng_len] at hz2
      have hz2 : z2.length = 4 := hz2
      dsimp only at hz1 hz3 ⊢
      refine ⟨by rw [N_len]; (exact ob360 hz2), rfl, (z1, y2 ++ [z2]), ⟨hz1, by simp [hy2], fun c hc => ?_⟩, rfl, by rw [List.map_append]; rfl⟩
      rcases List.mem_append.mp hc with hc | hc
      · exact hy3 c hc
      · rw [List.mem_singleton] at hc; subst hc; exact ⟨hz2, hz3⟩
    obtain ⟨y1, y2⟩ := y
    obtain ⟨hy1, hy2, hy3⟩ := hy
    rw [rng_len] at hy2
    dsimp only at hy1 hy2 hy3 ⊢
    exact ⟨rfl, (y1, x2 ++ [y2]), ⟨hy1, hx2.snoc hy2 hy3⟩, rfl, by rw [List.map_append]; rfl⟩
  obtain ⟨m3, rows⟩ := x
  obtain ⟨hm3, hp⟩ := hx
  rw [rng_len] at hp
  dsimp only at hm3 hp ⊢
  refine ExC.step (Ex1.assign ?_ (.inl (by rfl)))
  refine Ev.callS (n := 5) (k := 31) (by rfl) ?_ (hn := Nat.le_of_ble_eq_true rfl)
  refine EvL.cons ?_
  refine Ev.name (by rfl) ?_
  refine EvL.cons ?_
  refine Ev.name (by rfl) ?_
  refine EvL.cons ?_
  refine Ev.name (by rfl) ?_
  refine EvL.nil ?_
  refine ⟨rfl, m3, [], rfl, hm3.live, (fn_lots st hm3 hp w3 h2).mono fun d m4 hd => ?_⟩
  obtain ⟨hm4, lots, rfl, mid, rfl, hid, hin, hmc, hml⟩ := hd
  have L' : Lots w h rows (mid ++ [(IEND, [])]) mid := ⟨rfl, hid, hin, hmc, hml, hp, w1, w3, h1, h2⟩
  generalize mid ++ [(IEND, [])] = rest at *
  have hall := L'.all_ch
  have hrl := L'.rest_len
  have hwl := written_len hall
  rw [List.length_cons] at hwl
  refine ExC.step (Ex1.assign ?_ (.inl (by rfl)))
  refine Ev.call (n := 5) (k := 32) (flt := false) ?_ (hn := Nat.le_of_ble_eq_true rfl)
  refine EvL.cons ?_
  refine Ev.name (by rfl) ?_
  refine EvL.nil ?_
  refine ⟨rfl, (fn_written st hall (by rw [List.length_cons]; (exact Nat.lt_of_le_of_lt hrl (Nat.le_of_ble_eq_true rfl)))).mono fun d hd => ?_⟩
  subst hd
  have hcz : ∀ c ∈ (IHDR, headN w h) :: rest, c.2.length ≤ 1000 := fun c hc => (hall c hc).l
  have hps := parse_written hall
  have hwo := written_oct hall
  have hsz : ((IHDR, headN w h) :: rest).length ≤ 8 := by rw [List.length_cons]; (exact Nat.lt_succ_of_le hrl)
  have hgood := fn_read_good st L'
  have hbad := fun ns => @fn_read_bad w h rows rest mid B st ns L'
  have htu := fn_turned st (wr := written ((IHDR, headN w h) :: rest)) hm4 hp w3 h2 L'.rest_ch (by (exact Nat.le_trans hrl (Nat.le_add_left _ _))) hwo (by
    show 33 ≤ (signN ++ (chunkN (IHDR, headN w h) ++ rest.flatMap chunkN)).length
    rw [List.length_append, List.length_append, chunkN_len rfl]; show 33 ≤ 8 + (12 + 13 + _); (exact ob361)) (by (exact ob346 hwl hrl))
  generalize hlots : (IHDR, headN w h) :: rest = lots at *
  generalize hwr : written lots = wr at *
  refine ExC.step (Ex1.ife (EvB.cmp ?_ (by rfl)))
  refine Ev.comp1 (cl := []) (Δin := []) (EvIter.data ?_) (by rfl) trivial trivial (by rfl)
  refine Ev.call (n := 5) (k := 19) (flt := false) ?_ (hn := Nat.le_of_ble_eq_true rfl)
  refine EvL.cons ?_
  refine Ev.name (by rfl) ?_
  refine EvL.nil ?_
  refine ⟨rfl, (fn_read_chunks st hwo (by (exact ob344 hwl hrl)) (fun _ => by rw [hps]; simp)).mono fun d hd => ?_⟩
  obtain ⟨cs, e, rfl⟩ := hd
  rw [hps] at e; cases e
  refine ⟨_, rfl, fun L1 => ?_⟩
  refine LastK.pure0 listD (by rw [List.length_map, List.length_nil]; (exact ob362 hsz)) (fun d hd => ?_) fun Δ' => ?_
  · obtain ⟨c, hc, rfl⟩ := List.mem_map.mp hd
    have := hcz c hc
    refine ⟨_, .pair _ _ _ _ _ _ _ _ (.inl (by rfl)) (.inl (by rfl)), fun Δ' r => ?_⟩
    refine Ev.tuple ?_
    refine EvL.cons ?_
    refine Ev.name (by rfl) ?_
    refine EvL.cons ?_
    refine Ev.toList ?_
    refine Ev.name (by rfl) ?_
    refine ⟨by rw [I_len]; (exact Nat.le_trans this (Nat.le_add_left _ _)), ?_⟩
    refine EvL.nil ?_
    exact ⟨rfl, Nat.le_of_ble_eq_true rfl, rfl, rfl, rfl⟩
  rw [List.map_map, List.nil_append, show (lots.map (listD ∘ chD)) = lots.map ltD from List.map_congr_left fun c _ => by show D.tuple [_, .list _] = _; rw [I_N]; rfl]
  refine Ev.comp1 (cl := []) (Δin := []) (EvIter.data (Ev.name (by rfl) ⟨_, rfl, fun L1 => ?_⟩)) (by rfl) trivial trivial (by rfl)
  refine LastK.pure0 id (by rw [List.length_map, List.length_nil]; (exact ob362 hsz)) (fun d hd => ?_) fun Δ' => ?_
  · obtain ⟨c, hc, rfl⟩ := List.mem_map.mp hd
    have := hcz c hc
    refine ⟨_, .pair _ _ _ _ _ _ _ _ (.inl (by rfl)) (.inl (by rfl)), fun Δ' r => ?_⟩
    refine Ev.tuple ?_
    refine EvL.cons ?_
    refine Ev.name (by rfl) ?_
    refine EvL.cons ?_
    refine Ev.toList ?_
    refine Ev.name (by rfl) ?_
    refine ⟨by rw [N_len]; (exact Nat.le_trans this (Nat.le_add_left _ _)), ?_⟩
    refine EvL.nil ?_
    exact ⟨rfl, Nat.le_of_ble_eq_true rfl, rfl, rfl, rfl⟩
  rw [List.map_id, List.nil_append]
  refine Op.neL (n := 2) (fun d hd => by obtain ⟨c, _, rfl⟩ := List.mem_map.mp hd; exact ltD_eq c) (by decide) ⟨_, rfl, ?_⟩
  refine ite_f rfl (Ex.nil ?_)
  refine ExC.cons (Ex1C.ret (EvC.and2 (EvC.cmp ?_ (by rfl))))
  refine EvC.callQ (n := 9) (k := 34) hF rfl ?_ (hn := Nat.le_of_ble_eq_true rfl)
  refine EvL.cons ?_
  refine Ev.name (by rfl) ?_
  refine EvL.nil ?_
  refine ⟨rfl, hgood.mono fun d hd => ?_⟩
  subst hd
  refine Ev.tuple ?_
  refine EvL.cons ?_
  refine Ev.name (by rfl) ?_
  refine EvL.cons ?_
  refine Ev.name (by rfl) ?_
  refine EvL.cons ?_
  refine Ev.name (by rfl) ?_
  refine EvL.nil ?_
  refine ⟨rfl, Nat.le_of_ble_eq_true rfl, ?_⟩
  refine Op.eqT (n := 3) (fun d hd => ?_) (by decide) ⟨_, rfl, ?_⟩
  · simp only [List.mem_cons, List.not_mem_nil, or_false] at hd
    rcases hd with rfl | rfl | rfl
    · exact .int ..
    · exact .int ..
    · exact .list fun d hd => by obtain ⟨r, _, rfl⟩ := List.mem_map.mp hd; exact rowE_eq r
  refine ite_t rfl ?_
  refine EvC.cmp ?_ (by rfl)
  refine EvC.callQ (n := 9) (k := 34) hF rfl (EvL.cons ?_) (hn := Nat.le_of_ble_eq_true rfl)
  refine Ev.callS (n := 7) (k := 33) (by rfl) ?_ (hn := Nat.le_of_ble_eq_true rfl)
  refine EvL.cons ?_
  refine Ev.name (by rfl) ?_
  refine EvL.cons ?_
  refine Ev.name (by rfl) ?_
  refine EvL.cons ?_
  refine Ev.name (by rfl) ?_
  refine EvL.nil ?_
  refine ⟨rfl, m4, [], rfl, hm4.live, htu.mono fun d m5 hd => ?_⟩
  obtain ⟨hm5, ts, rfl, ht⟩ := hd
  refine EvL.nil ⟨rfl, (hbad ts ht).mono fun d hd => ?_⟩
  subst hd
  refine Ev.knone ?_
  refine Op.isNone (.inl ⟨rfl, rfl⟩) ⟨rfl, rfl⟩
/-! H5 -/
theorem ns_of {K : Frag} {h : Heap} {a : Addr} {o : Obj} {es : Array DictEntry} {n : Nat} (X : K.In h) (e : K.lookup a = some o) (d : o.data = .dict es n) (k : es.toList.all (fun x => match x.key with | .str _ _ => true | _ => false) = true) : h.Ns a (nsFind es) := by
  refine ⟨o, es, n, X _ _ e, d, fun x hx => ?_, fun _ => rfl⟩
  have := List.all_eq_true.mp k x (Array.mem_toList_iff.mpr hx)
  split at this
  · rename_i n t q; exact ⟨n, t, q⟩
  · cases this
theorem well_list {P : Params} {h : Heap} {a : Addr} {xs : List WData} (x : Well P h (.ref a) (.list xs)) : ∃ vs : List Value, h.get? a = some { cls := .type "list", data := .seq vs.toArray } := by
  cases x with
  | list e _ => exact ⟨_, e⟩
theorem fnQ {w : World} {s : Shared} {mg mb : Str → Option Value} (KX : (heapK w.params).In s.heap) (g : s.heap.Ns mainGlobals mg) {f : Str} {k : Nat} {a c : Addr} {df : Value} {pm : Str} {t : Tok} (h1 : nsIn (heapK w.params) mainGlobals f = some (some (.ref a)))
    (h2 : (heapK w.params).lookup a = some (fnO (fx k) f f df pm t c)) (h3 : codeIn (heapK w.params) (.ref c) f = true) (h4 : DfOk ⟨w, s, mg, mb⟩ k df) : ∃ a, FnAt ⟨w, s, mg, mb⟩ f k a :=
  ⟨a, mg_of KX g h1, _, _, KX _ _ h2, rfl, rfl, codeRec_of KX h3, rfl, rfl, rfl, rfl, rfl, rfl, rfl, rfl, h4⟩
theorem dfNone {B : Bs} {k : Nat} (h : ¬ (k = 12 ∨ k = 13)) : DfOk B k .none := by unfold DfOk; rw [if_neg h]
theorem fnsQ {w : World} {s : Shared} {mg mb : Str → Option Value} (KX : (heapK w.params).In s.heap) (g : s.heap.Ns mainGlobals mg) : ∀ p ∈ fnTab, ∃ a, FnAt ⟨w, s, mg, mb⟩ p.1 p.2 a := by
  unfold fnTab
  repeat first
    | refine List.forall_mem_cons.mpr ⟨fnQ KX g (by rfl) (by rfl) (by rfl) (dfNone (by decide)), ?_⟩
    | refine List.forall_mem_cons.mpr ⟨fnQ KX g (by rfl) (by rfl) (by rfl) (by unfold DfOk; rw [if_pos (by decide)]; exact ⟨_, _, _, _, rfl, KX _ _ (by rfl), rfl⟩), ?_⟩
  exact fun p h => nomatch h
theorem giQ {w : World} {s : Shared} {mg : Str → Option Value} (KX : (heapK w.params).In s.heap) (g : s.heap.Ns mainGlobals mg) : ∀ p ∈ gInts, ∃ t, mg p.1 = some (.int p.2 t) := by
  unfold gInts
  repeat refine allC ⟨_, mg_of KX g (by rfl)⟩ ?_
  exact allN
theorem freeQ {w : World} {s : Shared} {mg : Str → Option Value} (KX : (heapK w.params).In s.heap) (g : s.heap.Ns mainGlobals mg) : ∀ x ∈ biNames, mg x = none := by
  unfold biNames
  repeat refine allC (mg_none_of KX g (by rfl)) ?_
  exact allN
noncomputable def lawRec : DefRec := { name := "law", params := (fx 35).1, body := (fx 35).2.1, scope := (fx 35).2.2, pos := ⟨204, 0, 212, 116⟩ }
set_option maxHeartbeats 0 in
theorem walk_law : WalkCl viewQ looseL (XL viewQ lvL) hookK.says rowR lawRec [] fun f vs => PySem.call f vs := by
  intro w s₀ s₁ mg mb G Y fa o pm cd doc dV kV ho hd hcd hD hmg hg args vals as hpre hlay hrd hwl hlo
  have KX : (heapK w.params).In s₁.heap := Y
  have st : Stat ⟨w, s₁, mg, mb⟩ := {
    gi := fun x i e => giQ KX G.T.g (x, i) (mem_of_lookup e)
    gs := ⟨_, mg_of KX G.T.g (by rfl)⟩
    sf := fun P k => k 44 43 31 28 _ _ _ _ _ _ _ _ _ _ _ _ _ _ _ _ _ _ _ (mg_of KX G.T.g (by rfl)) {
        hC := KX _ _ (by rfl), hM := KX _ _ (by rfl), nsC := ns_of KX (a := 43) (by rfl) rfl (by rfl), nsM := ns_of KX (a := 30) (by rfl) rfl (by rfl)
        noInit := by rfl, init := by rfl, noSet := ⟨by rfl, by rfl⟩, noMsg := ⟨by rfl, by rfl⟩, CM := by decide } ⟨_, _, KX _ _ (by rfl), rfl, rfl, codeRec_of KX (by rfl), rfl, rfl, rfl, rfl, rfl, rfl, rfl, rfl⟩
    g := G.T.g
    b := G.T.b
    lim := G.T.nolimit
    bi := G.T.builtins
    free := freeQ KX G.T.g
    fns := fun f k e => fnsQ KX G.T.g (f, k) (mem_of_lookup e) }
  wrow_args hpre hlay hrd hwl hlo
  rename_i ns hs0 hl0 hlay hr1 hl2 a4 a3 la vs a0 hL ra w1 r0 hI hr hc1 hc2
  have hlen : ns.length ≤ 63 := by (exact ob363 hc1)
  obtain ⟨vs', hget⟩ := well_list w1
  obtain ⟨o', ho', hc', n', hd'⟩ := hL
  rw [hget] at ho'
  cases ho'
  have hvs : vs'.toArray = vs.toArray := by injection hd'
  have hvs : vs' = vs := by simpa using hvs
  subst hvs
  have hfa : mg "law" = some (.ref 212) := mg_of KX G.T.g (by rfl)
  have hmg' : mg "law" = some (.ref fa) := hmg
  rw [hfa] at hmg'
  cases hmg'
  have ci : Cold.In (fun a => if a = la then some (true, { cls := .type "list", data := .seq vs'.toArray }) else none) s₁.heap := fun a p e => by
    dsimp only at e
    split at e
    · rename_i q; subst q; cases e; exact ⟨_, hget, Sim.rfl _⟩
    · cases e
  show wpC _ callerA (PySem.call (.ref 212) [.ref la]) _ _ s₁
  refine .call ?_
  refine enterC (B := ⟨w, s₁, mg, mb⟩) (f := "law") (k := 35) (n := 12) (fr := none) (ρ := []) (μ := []) (ds := [.list (ns.map .int)]) (Δ := [("script", .list (ns.map .int))]) (ns := ["script"]) st rfl ⟨by decide, by decide⟩ ⟨rfl, fun _ _ e => e⟩ ci Mu.nil
    ⟨Rd.list (if_pos rfl) rfl rfl rfl (ints_rd hI), trivial⟩ hfa (KX 212 _ (by rfl)) rfl (codeRec_of KX (by rfl)) rfl rfl rfl rfl rfl rfl rfl rfl ?_ (Binds.one (by decide) fun fd v hp h1 h2 => by obtain ⟨⟩ := fd; subst hp h1 h2; rfl) rfl (by decide +kernel) (fun _ e => by cases e)
    (fun L cd => law_body st rfl hlen fun n hn => intBits_le_of_item hn hlay) (fun _ _ _ _ _ k => k.elim) (fun v d C' ρ' μ' s' k1 c1 p1 b1 ci1 m1 r1 => ?_) (fun _ _ _ e => by cases e)
  · unfold DfOk; rw [if_neg (by decide)]
  · obtain ⟨_, rfl⟩ := k1
    cases r1
    refine GoodW.toG ⟨.inl ⟨_, .bool true, [], rfl, ?_, .bool true, ?_, ?_⟩, fun b o e => b1.keep b o e, ?_, ?_⟩
    · intro cls; rfl
    · show (WShape.has [] (.bool true) .bool && WTm.holds [] (.eq .res (.lit (.bool true))) _) = true
      rw [Bool.and_eq_true]
      refine ⟨by simp [WShape.has, WShape.arms], ?_⟩
      unfold WTm.holds
      simp only [WTm.value]
      have q : PySem.W.same (WData.bool true) (WData.bool true) = true := by first | rfl | decide +kernel | simp [PySem.W.same]
      rw [q]
    · intro _; exact ⟨.nil, fun _ h => nomatch h⟩
    · rw [b1.same]
    · rw [b1.same]; exact hg
set_option maxHeartbeats 0 in
theorem said_ok : PySem.Challenge.rw_on0237_01.wellSaid = true := by
  rw [Fast.te9446332074065402090]
  kernel_rfl
set_option maxHeartbeats 0 in
theorem all_holds : PySem.Challenge.rw_on0237_01.Holds := by
  refine holds_law said_ok fun said => ?_
  refine holds_clean (q := viewQ) (loose := looseL) (Xt := seenQ) (XP := XL viewQ lvL) (Yf := hookK.obs) (Ya := hookK.val) (YP := hookK.says) (N := 3232) (d := lawRec) (kwd := []) leftQ hookK.of hookK.keeps (fun s e => xl_of s (Bool.and_eq_true_iff.mp e).1) XL.keeps
    (by as_aux_lemma => rfl) (by as_aux_lemma => rfl) (by as_aux_lemma => rfl) (fun s e => recFacts_of (Bool.and_eq_true_iff.mp e).2) (by as_aux_lemma => rfl) (by first | assumption | decide +kernel) (by decide +kernel) ⟨rfl, rfl, rfl, rfl, rfl, by decide +kernel⟩ ?_ walk_law
  w_witness2
end Mine
end

set_option maxRecDepth 100000 in
theorem PySem.Challenge.cw_on0237_01_holds : PySem.Challenge.rw_on0237_01.Holds := by
  exact Mine.all_holds
