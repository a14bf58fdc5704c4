import PyProof.Rows.All
import Wide.All
import OpenK.AllK
import Wide.FinOn
import KE.KDictOf
import KE.LcSums
import PyProof.CompFree
import PyProof.LetGo
import PyProof.SliceMore
import PyProof.RulesAssignMore
import PyProof.RulesMatch
import PyProof.WalksMore
import PyProof.CompUse
import Lean
import PySem.Challenge.RW_xm0132_01
set_option Elab.async false
set_option maxRecDepth 100000
set_option bootstrap.genMatcherCode false
namespace Mine
theorem DMm {a b : Nat} (h : a % 32 + b % 32 < 32) : (a + b) % 32 = a % 32 + b % 32 := (Nat.add_mod _ _ _).trans (Nat.mod_eq_of_lt h)
theorem DMd {a b : Nat} (h : a % 32 + b % 32 < 32) : (a + b) / 32 = a / 32 + b / 32 :=
  Nat.mul_left_cancel (n := 32) (Nat.le_of_ble_eq_true rfl) (Nat.add_right_cancel (m := (a + b) % 32) ((Nat.div_add_mod _ _).trans
    ((congr (congrArg HAdd.hAdd (Nat.div_add_mod a 32).symm) (Nat.div_add_mod b 32).symm).trans ((Nat.add_add_add_comm _ _ _ _).trans
      (congr (congrArg HAdd.hAdd (Nat.mul_add _ _ _).symm) (DMm h).symm)))))
theorem DM1 {a b : Nat} (h : a % 32 + b % 32 < 32) : ((a / 32 : Nat) : Int) + ((b / 32 : Nat) : Int) = (((a + b) / 32 : Nat) : Int) ∧ ((a % 32 : Nat) : Int) + ((b % 32 : Nat) : Int) = (((a + b) % 32 : Nat) : Int) :=
  ⟨congrArg Int.ofNat (DMd h).symm, congrArg Int.ofNat (DMm h).symm⟩
theorem AM {a b : Nat} (h : b ≤ 7) : (a * 32 + b) % 32 = b := Nat.mul_add_mod_of_lt (Nat.lt_of_le_of_lt h (Nat.le_of_ble_eq_true rfl))
theorem SBD {a b : Nat} (h : b ≤ a) (g : b % 32 ≤ a % 32) : (a - b) / 32 = a / 32 - b / 32 ∧ (a - b) % 32 = a % 32 - b % 32 := by
  have e : a - b = (a / 32 - b / 32) * 32 + (a % 32 - b % 32) := Nat.sub_eq_of_eq_add ((Nat.div_add_mod a 32).symm.trans
    ((congr (congrArg HAdd.hAdd ((congrArg (32 * ·) (Nat.sub_add_cancel (Nat.div_le_div_right h)).symm).trans ((Nat.mul_add 32 _ _).trans (congrArg (· + _) (Nat.mul_comm _ _))))) (Nat.sub_add_cancel g).symm).trans ((Nat.add_add_add_comm _ _ _ _).trans (congrArg _ (Nat.div_add_mod b 32)))))
  have l : a % 32 - b % 32 < 32 := Nat.lt_of_le_of_lt (Nat.sub_le _ _) (Nat.mod_lt _ (Nat.le_of_ble_eq_true rfl))
  exact ⟨(congrArg (· / 32) (e.trans (Nat.add_comm _ _))).trans ((Nat.add_mul_div_right _ _ (Nat.le_of_ble_eq_true rfl)).trans ((congrArg (· + _) (Nat.div_eq_of_lt l)).trans (Nat.zero_add _))), (congrArg (· % 32) e).trans (Nat.mul_add_mod_of_lt l)⟩
theorem ar0 {x0 : Nat} (h1 : x0 ≤ 397) : x0 < 10000 := Nat.lt_of_le_of_lt h1 (Nat.le_of_ble_eq_true rfl)
theorem ar1 {x0 : Nat} : ¬(↑x0 : Int) < (0 : Int) := Int.not_ofNat_neg x0
theorem ar2 {x0 x1 : Nat} (h1 : x1 < 10000) (h2 : x0 = x1) : x0 ≤ 16777216 := le_of_eq_of_le h2 (Nat.le_of_lt (Nat.lt_of_lt_of_le h1 (Nat.le_of_ble_eq_true rfl)))
theorem ar6 {x0 : Nat} (h1 : x0 < 4) : x0 = 0 ∨ x0 = 1 ∨ x0 = 2 ∨ x0 = 3 := (Nat.lt_succ_iff_lt_or_eq.mp h1).elim (fun h => (Nat.lt_succ_iff_lt_or_eq.mp h).elim (fun h => (Nat.lt_succ_iff_lt_or_eq.mp h).elim (fun h => .inl (Nat.lt_one_iff.mp h)) (fun h => .inr (.inl h))) (fun h => .inr (.inr (.inl h)))) (fun h => .inr (.inr (.inr h)))
theorem ar11 {x0 : Nat} (h1 : x0 < 2) : x0 = 0 ∨ x0 = 1 := (Nat.lt_succ_iff_lt_or_eq.mp h1).elim (fun h => .inl (Nat.lt_one_iff.mp h)) (fun h => .inr h)
theorem ar12 {x0 : Nat} (h1 : x0 < 5) : x0 = 0 ∨ x0 = 1 ∨ x0 = 2 ∨ x0 = 3 ∨ x0 = 4 := (Nat.lt_succ_iff_lt_or_eq.mp h1).elim (fun h => (Nat.lt_succ_iff_lt_or_eq.mp h).elim (fun h => (Nat.lt_succ_iff_lt_or_eq.mp h).elim (fun h => (Nat.lt_succ_iff_lt_or_eq.mp h).elim (fun h => .inl (Nat.lt_one_iff.mp h)) (fun h => .inr (.inl h))) (fun h => .inr (.inr (.inl h)))) (fun h => .inr (.inr (.inr (.inl h))))) (fun h => .inr (.inr (.inr (.inr h))))
theorem ar13 {x0 : Nat} (h1 : x0 ≤ 793) : x0 < 10000 := Nat.lt_of_le_of_lt h1 (Nat.le_of_ble_eq_true rfl)
theorem ar14 {x0 x1 : Nat} (h1 : x0 + (x1 + 1) < 900) : x0 + 1 + x1 < 900 := Nat.lt_of_le_of_lt (Nat.le_of_eq (Nat.add_right_comm _ _ _)) h1
theorem ar15 {x0 x1 x2 : Nat} (h1 : x0 = x2) (h2 : x2 ≤ x1) : x0 ≤ x1 := le_of_eq_of_le h1 h2
theorem ar18 {x0 : Nat} (h1 : x0 ≤ 4) : x0 ≤ 576460752303423488 := Nat.le_trans h1 (Nat.le_of_ble_eq_true rfl)
theorem ar21 {x0 x1 x2 : Nat} (h1 : x2 ≤ x1) (h2 : x0 = x2) : x0 ≤ x1 := le_of_eq_of_le h2 h1
theorem ar22 {x0 x1 x2 : Nat} (h1 : ¬x1 < x2) (h2 : x2 = x0) : x0 ≤ x1 := le_of_eq_of_le h2.symm (Nat.le_of_not_lt h1)
theorem ar23 {x0 x1 : Nat} (h1 : x1 + 1 = x0) : 0 < x0 := Nat.lt_of_sub_eq_succ (Eq.symm h1)
theorem ar30 {x0 : Nat} : (↑(x0 + 1) : Int) ≠ (0 : Int) := of_decide_eq_true rfl
theorem ar33 {x0 : Int} (h1 : x0 < (2 : Int) ^ 62) : x0 < (2 : Int) ^ 63 := Int.lt_trans h1 (of_decide_eq_true rfl)
theorem ar34 {x0 : Int} {x1 x2 : Nat} (h1 : -(↑x1 : Int) ≤ x0 ∧ x1 < x2) (h2 : x1 < 10000) : -(2 : Int) ^ 63 ≤ x0 := Int.le_trans (Int.neg_le_neg (Int.ofNat_le.mpr (Nat.le_of_lt (Nat.lt_of_lt_of_le h2 (show 10000 ≤ 2 ^ 63 from (Nat.le_of_ble_eq_true rfl)))))) h1.1
theorem ar36 {x0 : Nat} (h1 : x0 < 10000) : x0 + 1 ≤ 1000000000 := Nat.le_trans h1 (Nat.le_of_ble_eq_true rfl)
theorem ar38 {x0 x1 : Nat} (h1 : x0 + (x1 + 1) < 9000) : x0 + 1 + x1 < 9000 := Nat.lt_of_le_of_lt (Nat.le_of_eq (Nat.add_right_comm _ _ _)) h1
theorem ar40 {x0 x1 : Nat} (h1 : x1 < 100) (h2 : x0 < x1) : x0 < 10000 := Nat.lt_trans h2 (Nat.lt_of_lt_of_le h1 (Nat.le_of_ble_eq_true rfl))
theorem ar41 {x0 x1 : Nat} (h1 : x0 < 9000 ∧ x1 < 9000) : x0 < 10000 := Nat.lt_of_lt_of_le h1.1 (Nat.le_of_ble_eq_true rfl)
theorem ar42 {x0 : Nat} (h1 : (↑x0 : Int) < (2 : Int)) : x0 < 2 := Int.ofNat_lt.mp h1
theorem ar43 {x0 : Nat} (h1 : (↑x0 : Int) < (4 : Int)) : x0 < 4 := Int.ofNat_lt.mp h1
theorem ar46 {x0 : Int} (h1 : x0 = (2 : Int) ∨ x0 = (3 : Int) ∨ x0 = (4 : Int)) : (1 : Int) < x0 := h1.elim (fun h => h ▸ (of_decide_eq_true rfl)) fun h => h.elim (fun h => h ▸ (of_decide_eq_true rfl)) (fun h => h ▸ (of_decide_eq_true rfl))
theorem ar47 {x0 : Int} (h1 : (0 : Int) ≤ x0) (h2 : x0 ≤ (3 : Int)) : x0.natAbs < 2 ^ 60 := Int.ofNat_lt.mp (Int.lt_of_le_of_lt (Int.le_of_eq (Int.natAbs_of_nonneg h1)) (Int.lt_of_le_of_lt h2 (of_decide_eq_true rfl)))
theorem ar48 {x0 : Int} (h1 : x0 ≤ (10000 : Int) * (3 : Int)) : ¬(200000 : Int) < x0 := Int.not_lt.mpr (Int.le_trans h1 (of_decide_eq_true rfl))
theorem ar51 {x0 : Nat} (h1 : x0 ≤ 397) : x0 < 9000 := Nat.lt_of_le_of_lt h1 (Nat.le_of_ble_eq_true rfl)
theorem ar53 {x0 : Nat} (h1 : x0 ≤ 100) : x0 ≤ 10000 := Nat.le_trans h1 (Nat.le_of_ble_eq_true rfl)
theorem ar54 {x0 x1 x2 : Nat} (h1 : x2 ≤ 576460752303423488) (h2 : x1 ≤ x2) (h3 : x0 ≤ x1) : x0 ≤ 576460752303423488 := Nat.le_trans h3 (Nat.le_trans h2 h1)
theorem ar55 {x0 : Nat} : (1 : Int) + (↑x0 : Int) = (↑(1 + x0) : Int) := by rfl
theorem ar56 {x0 : Nat} (h1 : x0 < 3) : x0 = 0 ∨ x0 = 1 ∨ x0 = 2 := (Nat.lt_succ_iff_lt_or_eq.mp h1).elim (fun h => (Nat.lt_succ_iff_lt_or_eq.mp h).elim (fun h => .inl (Nat.lt_one_iff.mp h)) (fun h => .inr (.inl h))) (fun h => .inr (.inr h))
theorem ar57 {x0 x1 : Nat} (h1 : 0 < x1) : 0 < x0 + x1 := Nat.add_pos_right x0 h1
theorem ar60 {x0 : Nat} (h1 : x0 ≤ 281474976710656) : x0 ≤ 576460752303423488 := Nat.le_trans h1 (Nat.le_of_ble_eq_true rfl)
theorem ar63 {x0 : Nat} (h1 : x0 < 1000) : (↑x0 : Int) < (2 : Int) ^ 62 := Int.lt_trans (Int.ofNat_lt.mpr h1) (of_decide_eq_true rfl)
theorem ar65 {x0 : Nat} (h1 : x0 < 4000) : 2 * x0 < 9000 := Nat.lt_of_lt_of_le (Nat.mul_lt_mul_of_pos_left h1 Nat.zero_lt_two) (Nat.le_of_ble_eq_true rfl)
theorem ar66 {x0 : Nat} (h1 : ¬4 ≤ x0) : ¬(3 : Int) < (↑x0 : Int) := fun q => h1 (Int.ofNat_le.mp q)
theorem ar67 {x0 x1 x2 x3 : Nat} (h1 : x1 + (x2 + x3) ≤ 576460752303423488) (h2 : x0 ≤ x2) : x0 ≤ 576460752303423488 := Nat.le_trans h2 (Nat.le_trans (Nat.le_add_right _ _) (Nat.le_trans (Nat.le_add_left _ _) h1))
theorem ar68 {x0 x1 : Int} (h1 : (20000 : Int) ≤ x0) (h2 : x1 ≤ (20000 : Int)) : ¬x0 < x1 := Int.not_lt.mpr (Int.le_trans h2 h1)
theorem ar69 {x0 x1 x2 : Nat} (h1 : x2 = x0 + 1) (h2 : x1 = x2 + 1) : x0 ≤ x1 := h2 ▸ h1 ▸ Nat.le_add_right _ 2
theorem ar75 {x0 : Nat} (h1 : (↑x0 : Int) < (2 : Int) ^ 63) : ¬(↑x0 : Int) ≥ (2 : Int) ^ 63 := Int.not_le.mpr h1
theorem ar77 {x0 x1 x2 : Int} (h1 : x1 ≤ x0) (h2 : x0 = x2) (h3 : x2 ≤ x1) : x0 = x1 := Int.le_antisymm (le_of_eq_of_le h2 h3) h1
theorem ar80 {x0 x1 x2 : Nat} (h1 : x0 < x2) (h2 : x1 = x2) : x0 < x1 := Nat.lt_of_lt_of_eq h1 (Eq.symm h2)
theorem ar82 {x0 x1 x2 : Nat} (h1 : x0 = x2) (h2 : x1 < x0) : x0 - 1 - x1 < x2 := Nat.lt_of_lt_of_eq (Nat.sub_one_sub_lt_of_lt h2) h1
theorem ar83 {x0 x1 x2 : Nat} (h1 : x1 = x0) (h2 : x2 < x1) : x0 - 1 - (x1 - 1 - x2) = x2 := by subst h1; exact Nat.sub_sub_self (Nat.le_sub_one_of_lt h2)
theorem ar84 {x0 x1 : Nat} (h1 : (↑x0 : Int) = (↑x1 : Int)) (h2 : x1 < 10000) : (↑x0 : Int) < (2 : Int) ^ 63 := Int.lt_of_le_of_lt (Int.le_of_eq h1) (Int.lt_trans (Int.ofNat_lt.mpr h2) (of_decide_eq_true rfl))
theorem ar85 {x0 x1 : Nat} (h1 : x0 = x1) (h2 : x1 < 10000) : (↑x0 : Int) < (2 : Int) ^ 63 := Int.lt_trans (Int.ofNat_lt.mpr (Nat.lt_of_le_of_lt (Nat.le_of_eq h1) h2)) (of_decide_eq_true rfl)
theorem ar86 {x0 x1 x2 : Int} (h1 : x0 ≤ x1) (h2 : x0 = x2) (h3 : x1 ≤ x2) : x0 = x1 := Int.le_antisymm h1 (Int.le_trans h3 (Int.le_of_eq h2.symm))
theorem ar90 {x0 x1 : Nat} (h1 : x0 + 10 * (x1 + 1) < 9000) : x0 + 3 + 10 * x1 < 9000 := Nat.lt_of_le_of_lt (Nat.le_trans (Nat.le_of_eq (Nat.add_right_comm x0 3 (10 * x1))) (Nat.add_le_add_left (show 3 ≤ 10 from (Nat.le_of_ble_eq_true rfl)) (x0 + 10 * x1))) h1
theorem ar92 {x0 x1 : Nat} (h1 : x0 + (x1 + 1 + 3) < 900) : x0 < 1000 := Nat.lt_of_le_of_lt (Nat.le_add_right _ _) (Nat.lt_of_lt_of_le h1 (Nat.le_of_ble_eq_true rfl))
theorem ar93 {x0 : Nat} : (0 : Int) < (↑x0.succ : Int) := Int.ofNat_succ_pos x0
theorem ar94 {x0 : Nat} : (↑(x0 + 1) : Int) - (1 : Int) = (↑x0 : Int) := Int.add_sub_cancel (x0 : Int) 1
theorem ar96 {x0 x1 x2 : Nat} (h1 : x0 ≤ x2) (h2 : x1 = x2) (h3 : x2 ≤ x0) : x0 = x1 := Nat.le_antisymm (Nat.le_trans h1 (Nat.le_of_eq h2.symm)) (le_of_eq_of_le h2 h3)
theorem ar97 {x0 : Int} (h1 : (0 : Int) ≤ x0 ∧ x0 < (10000 : Int)) : -(2 : Int) ^ 62 ≤ x0 := Int.le_trans (of_decide_eq_true rfl) h1.1
theorem ar98 {x0 : Int} (h1 : (0 : Int) ≤ x0 ∧ x0 < (10000 : Int)) : x0 < (2 : Int) ^ 62 := Int.lt_trans h1.2 (of_decide_eq_true rfl)
theorem ar99 {x0 : Int} (h1 : (0 : Int) ≤ x0 ∧ x0 < (10000 : Int)) : x0 - (0 : Int) = (↑x0.toNat : Int) := (Int.sub_zero _).trans (Int.toNat_of_nonneg h1.1).symm
theorem ar100 {x0 x1 x2 : Nat} (h1 : x1 ≤ x2) (h2 : x0 + x2 < 900) : x0 + x1 < 900 := Nat.lt_of_le_of_lt (Nat.add_le_add_left h1 _) h2
theorem ar101 {x0 x1 : Nat} (h1 : x0 + 10 * x1 < 9000) : x0 < 9900 := Nat.lt_of_le_of_lt (Nat.le_add_right _ _) (Nat.lt_of_lt_of_le h1 (Nat.le_of_ble_eq_true rfl))
theorem ar103 {x0 x1 : Nat} (h1 : x0 + 10 * x1 < 9000) : x0 + 1 < 9900 := Nat.lt_of_le_of_lt (Nat.lt_of_le_of_lt (Nat.le_add_right _ _) h1) (Nat.le_of_ble_eq_true rfl)
theorem ar104 {x0 x1 x2 : Nat} (h1 : x1 ≤ x2) (h2 : x0 + 10 * x2 < 9000) : x0 + 10 * x1 < 9000 := Nat.lt_of_le_of_lt (Nat.add_le_add_left (Nat.mul_le_mul_left _ h1) _) h2
theorem ar106 {x0 x1 : Nat} (h1 : x0 + 10 * (x1 + 1) < 9000) : x0 + 1 + 10 * x1 < 9000 := Nat.lt_of_le_of_lt (Nat.le_trans (Nat.le_of_eq (Nat.add_right_comm x0 1 (10 * x1))) (Nat.add_le_add_left (show 1 ≤ 10 from (Nat.le_of_ble_eq_true rfl)) (x0 + 10 * x1))) h1
theorem ar107 {x0 : Int} (h1 : x0.natAbs < 2 ^ 60) : -(2 : Int) ^ 64 < x0 := Int.lt_of_lt_of_le (Int.neg_lt_neg (Int.ofNat_lt.mpr (Nat.lt_trans h1 (show 2 ^ 60 < 2 ^ 64 from (Nat.le_of_ble_eq_true rfl))))) (Int.neg_le_of_neg_le Lean.Omega.Int.neg_le_natAbs)
theorem ar108 {x0 : Int} (h1 : x0.natAbs < 2 ^ 60) : x0 < (2 : Int) ^ 64 := Int.lt_of_le_of_lt Int.le_natAbs (Int.ofNat_lt.mpr (Nat.lt_trans h1 (show 2 ^ 60 < 2 ^ 64 from (Nat.le_of_ble_eq_true rfl))))
theorem ar110 {x0 : Int} {x1 : Nat} (h1 : (0 : Int) ≤ x0) (h2 : x0.toNat < x1) : (0 : Int) ≤ x0 ∧ x0 < (↑x1 : Int) := ⟨h1, (Int.toNat_lt h1).mp h2⟩
theorem ar111 {x0 : Int} {x1 : Nat} (h1 : ¬(0 : Int) ≤ x0) (h2 : -(↑x1 : Int) ≤ x0) : (0 : Int) ≤ x0 + (↑x1 : Int) ∧ x0 + (↑x1 : Int) < (↑x1 : Int) := ⟨le_of_eq_of_le (Int.add_left_neg _).symm (Int.add_le_add_right h2 _), Int.lt_of_lt_of_le (Int.add_lt_add_right (Int.not_le.mp h1) _) (Int.le_of_eq (Int.zero_add _))⟩
theorem ar112 {x0 : Int} (h1 : (0 : Int) ≤ x0) : -(2 : Int) ^ 63 ≤ x0 := Int.le_trans (of_decide_eq_true rfl) h1
theorem ar113 {x0 : Int} {x1 : Nat} (h1 : (0 : Int) ≤ x0 ∧ x0 < (↑x1 : Int) ∧ x0 < (2 : Int) ^ 62) : x0 < (2 : Int) ^ 63 := Int.lt_trans h1.2.2 (of_decide_eq_true rfl)
theorem ar114 {x0 : Int} {x1 x2 : Nat} (h1 : (0 : Int) ≤ x0 ∧ x0 < (↑x2 : Int) ∧ x0 < (2 : Int) ^ 62) (h2 : x1 = x2) : x0 < (↑x1 : Int) := h2 ▸ h1.2.1
theorem ar115 {x0 : Int} (h1 : ¬(0 : Int) ≤ x0) : x0 < (2 : Int) ^ 63 := Int.lt_trans (Int.not_le.mp h1) (of_decide_eq_true rfl)
theorem ar116 {x0 x1 : Nat} (h1 : (↑x0 : Int) < (↑x1 : Int)) : x0 < x1 := Int.ofNat_lt.mp h1
theorem ar117 {x0 : Nat} (h1 : x0 < 7) : (↑x0 : Int) < (2 : Int) ^ 62 := Int.lt_trans (Int.ofNat_lt.mpr h1) (of_decide_eq_true rfl)
theorem ar119 {x0 x1 : Nat} (h1 : x0 + x1 < 9500) : x0 < 10000 := Nat.lt_of_le_of_lt (Nat.le_add_right _ _) (Nat.lt_of_lt_of_le h1 (Nat.le_of_ble_eq_true rfl))
theorem ar120 {x0 x1 : Nat} (h1 : x0 + (x1 + 1) < 9500) : x0 + 1 + x1 < 9500 := Nat.add_right_comm _ _ _ ▸ h1
theorem ar121 {x0 x1 x2 x3 : Nat} (h1 : x2 + x3 < 10000) (h2 : x0 = x2) (h3 : x1 = x3) : x0 + x1 ≤ 16777216 := h2 ▸ h3 ▸ Nat.le_of_lt (Nat.lt_trans h1 (Nat.le_of_ble_eq_true rfl))
theorem ar122 {x0 x1 : Int} (h1 : x1 = (1 : Int) ∧ (0 : Int) < x0) : ¬x0 ≤ (0 : Int) := by simp_all
theorem ar124 {x0 : Nat} : 0 + x0 = x0 := Nat.zero_add x0
theorem ar126 {x0 x1 x2 : Nat} (h1 : x0 + (x2 + 1) = x1) : x0 < x1 := Nat.lt_of_lt_of_eq (Nat.lt_add_of_pos_right (Nat.succ_pos _)) h1
theorem ar127 {x0 x1 x2 : Nat} (h1 : x0 + (x1 + 1) = x2) : x0 + 1 + x1 = x2 := (Nat.add_right_comm _ _ _).trans h1
theorem ar128 {x0 x1 : Nat} : x0 + 1 + 1 + x1 = x0 + 1 + x1 + 1 := Nat.add_right_comm (x0 + 1) 1 x1
theorem ar129 {x0 x1 : Nat} (h1 : x0 + x1 < 9000) : x0 < 10000 := Nat.lt_of_le_of_lt (Nat.le_add_right _ _) (Nat.lt_of_lt_of_le h1 (Nat.le_of_ble_eq_true rfl))
theorem ar130 {x0 : Nat} : min 9 x0 ≤ 9 := Nat.min_le_left 9 x0
theorem ar131 {x0 : Nat} (h1 : x0 ≤ 9) : x0 < 10000 := Nat.lt_of_le_of_lt h1 (Nat.le_of_ble_eq_true rfl)
theorem ar132 {x0 x1 : Int} (h1 : x0 = (2 : Int) + x1) (h2 : (0 : Int) ≤ x1 ∧ x1 < (4 : Int)) : (2 : Int) ≤ x0 := Int.le_trans (Int.le_add_of_nonneg_right h2.1) (Int.le_of_eq h1.symm)
theorem ar133 {x0 : Nat} (h1 : x0 ≤ 9) : x0 < 9000 := Nat.lt_of_le_of_lt h1 (Nat.le_of_ble_eq_true rfl)
theorem ar134 {x0 : Nat} (h1 : x0 ≤ 9) : 1000000000 = x0 + 1 + (1000000000 - (x0 + 1)) := (Nat.add_sub_of_le (Nat.le_trans (Nat.succ_le_succ h1) (Nat.le_of_ble_eq_true rfl))).symm
theorem ar135 {x0 : Nat} (h1 : x0 < 10000) : (↑x0 : Int) < (10000 : Int) := Int.ofNat_lt.mpr h1
theorem ar137 {x0 : Nat} (h1 : x0 < 9000) : x0 + 1 < 10000 := Nat.lt_of_le_of_lt h1 (Nat.le_of_ble_eq_true rfl)
theorem ar138 {x0 : Nat} : ((-1 : Int) + ((↑x0 : Int) + (1 : Int))).toNat = x0 := congrArg Int.toNat ((Int.add_comm _ _).trans (Int.add_sub_cancel _ _))
theorem ar139 {x0 x1 : Nat} (h1 : x0 ≤ x1) : (↑x0 : Int) ≤ (↑x1 : Int) := Int.ofNat_le.mpr h1
theorem ar142 {x0 : Nat} (h1 : 0 < x0) : -(↑x0 : Int) ≤ (-1 : Int) := Int.neg_le_neg (Int.ofNat_le.mpr h1)
theorem ar143 {x0 : Nat} : ((-1 : Int) + (↑x0 : Int)).toNat = x0 - 1 := by cases x0 with | zero => exact rfl | succ n => exact (congrArg Int.toNat ((congrArg (-1 + ·) (Int.add_comm (n : Int) 1)).trans (Int.neg_add_cancel_left 1 n))).trans (Int.toNat_natCast _)
theorem ar144 {x0 x1 : Int} (h1 : x0 = (2 : Int) + x1) (h2 : (0 : Int) ≤ x1 ∧ x1 < (4 : Int)) : (0 : Int) < x0 := Int.lt_of_lt_of_le (Int.lt_of_lt_of_le (show (0:Int) < 2 from (of_decide_eq_true rfl)) (Int.le_add_of_nonneg_right h2.1)) (Int.le_of_eq h1.symm)
theorem ar145 {x0 x1 : Int} (h1 : x0 = (2 : Int) + x1) (h2 : (0 : Int) ≤ x1 ∧ x1 < (4 : Int)) : (0 : Int) < x0 - (1 : Int) := Int.sub_pos_of_lt (Int.lt_of_lt_of_le (Int.lt_of_lt_of_le (show (1:Int) < 2 from (of_decide_eq_true rfl)) (Int.le_add_of_nonneg_right h2.1)) (Int.le_of_eq h1.symm))
theorem ar146 {x0 x1 : Int} (h1 : x0 = (2 : Int) + x1) (h2 : (0 : Int) ≤ x1 ∧ x1 < (4 : Int)) : x0 ≠ (0 : Int) := Int.ne_of_gt (Int.lt_of_lt_of_le (Int.lt_of_lt_of_le (show (0:Int) < 2 from (of_decide_eq_true rfl)) (Int.le_add_of_nonneg_right h2.1)) (Int.le_of_eq h1.symm))
theorem ar148 {x0 x1 : Int} (h1 : (0 : Int) < x1) (h2 : x0 < x1) : (↑x0.toNat : Int) < x1 := Int.lt_of_le_of_lt (Int.le_of_eq (Int.toNat_eq_max _)) (Int.max_lt.mpr ⟨h2, h1⟩)
theorem ar149 {x0 : Nat} : (0 : Int) < (↑(2 + x0) : Int) := Int.ofNat_lt.mpr (Nat.add_pos_left Nat.zero_lt_two _)
theorem ar150 {x0 : Nat} : (0 : Int) < (↑(2 + x0) : Int) - (1 : Int) := Int.sub_pos_of_lt (Int.ofNat_lt.mpr (Nat.lt_of_lt_of_le (show 1 < 2 from (Nat.le_of_ble_eq_true rfl)) (Nat.le_add_right _ _)))
theorem ar151 {x0 : Nat} (h1 : x0 = 2 ∨ x0 = 3 ∨ x0 = 4 ∨ x0 = 5) : x0 < 100 := h1.elim (fun h => h ▸ (Nat.le_of_ble_eq_true rfl)) fun h => h.elim (fun h => h ▸ (Nat.le_of_ble_eq_true rfl)) fun h => h.elim (fun h => h ▸ (Nat.le_of_ble_eq_true rfl)) (fun h => h ▸ (Nat.le_of_ble_eq_true rfl))
theorem ar152 {x0 : Nat} (h1 : (↑x0 : Int) < (4 : Int)) : 2 + x0 = 2 ∨ 2 + x0 = 3 ∨ 2 + x0 = 4 ∨ 2 + x0 = 5 := (Nat.lt_succ_iff_lt_or_eq.mp (Int.ofNat_lt.mp h1)).elim (fun h => (Nat.lt_succ_iff_lt_or_eq.mp h).elim (fun h => (Nat.lt_succ_iff_lt_or_eq.mp h).elim (fun h => .inl (congrArg _ (Nat.lt_one_iff.mp h))) (fun h => .inr (.inl (congrArg _ h)))) (fun h => .inr (.inr (.inl (congrArg _ h))))) (fun h => .inr (.inr (.inr (congrArg _ h))))
theorem ar153 {x0 : Nat} : (↑(2 + x0) : Int) = (2 : Int) + (↑x0 : Int) := by rfl
theorem ar154 {x0 x1 : Nat} (h1 : (↑x0 : Int) < (↑(2 + x1) : Int)) : x0 < 2 + x1 := Int.ofNat_lt.mp h1
theorem ar155 {x0 x1 : Nat} (h1 : (↑x0 : Int) < (↑(2 + x1) : Int) - (1 : Int)) : x0 < 2 + x1 - 1 := Nat.lt_sub_of_add_lt (Int.ofNat_lt.mp (Int.add_lt_of_lt_sub_right h1))
theorem ar156 {x0 x1 : Nat} (h1 : (3 : Int) < (↑(2 + x0) : Int)) (h2 : 2 + x0 ≤ 3) : x1 = 0 := (Nat.not_lt.mpr h2 (Int.ofNat_lt.mp h1)).elim
theorem ar158 {x0 : Nat} (h1 : x0 < 100000) : x0 + 1 ≤ 1000000000 := Nat.le_trans h1 (Nat.le_of_ble_eq_true rfl)
theorem ar159 {x0 x1 x2 x3 x4 : Nat} (h1 : x4 ≤ x1) (h2 : x0 ≤ x2) (h3 : x2 ≤ x3) (h4 : x3 ≤ x4) : x0 ≤ x1 := Nat.le_trans h2 (Nat.le_trans h3 (Nat.le_trans h4 h1))
theorem ar161 {x0 : Int} (h1 : (0 : Int) ≤ x0) (h2 : x0 ≤ (10000 : Int)) : x0.natAbs < 2 ^ 60 := Int.ofNat_lt.mp (Int.lt_of_le_of_lt (Int.le_of_eq (Int.natAbs_of_nonneg h1)) (Int.lt_of_le_of_lt h2 (of_decide_eq_true rfl)))
theorem ar162 {x0 : Int} (h1 : x0 < (0 : Int)) (h2 : (0 : Int) - x0 ≤ (10000 : Int)) : ((0 : Int) - x0).natAbs < 2 ^ 60 := Int.ofNat_lt.mp (Int.lt_of_le_of_lt (Int.le_of_eq (Int.natAbs_of_nonneg (Int.sub_nonneg_of_le (Int.le_of_lt h1)))) (Int.lt_of_le_of_lt h2 (of_decide_eq_true rfl)))
theorem ar163 {x0 x1 : Nat} (h1 : x1 < 9000 ∧ x0 < 9000) : x0 < 10000 := Nat.lt_trans h1.2 (Nat.le_of_ble_eq_true rfl)
theorem ar164 {x0 x1 : Nat} (h1 : ¬x0 ≤ x1) : ¬(↑x0 : Int) ≤ (↑x1 : Int) := fun q => h1 (Int.ofNat_le.mp q)
theorem ar165 {x0 x1 x2 : Nat} (h1 : x2 ≤ x0) (h2 : x1 < x2) : x0 ≠ x1 := Nat.ne_of_gt (Nat.lt_of_lt_of_le h2 h1)
theorem ar167 {x0 x1 : Nat} (h1 : x0 + 2 * (x1 + 1) < 9000) : x0 + 2 + 2 * x1 < 9000 := Nat.lt_of_le_of_lt (Nat.le_of_eq (Nat.add_right_comm x0 2 (2 * x1))) h1
theorem ar168 {x0 x1 : Nat} : x0 + 2 + 2 * x1 = x0 + 2 * (x1 + 1) := Nat.add_right_comm x0 2 (2 * x1)
theorem ar169 {x0 x1 : Nat} (h1 : x0 + 2 * x1 < 9000) : x0 + 2 < 10000 := Nat.lt_of_le_of_lt (Nat.add_le_add_right (Nat.le_add_right _ (2 * x1)) 2) (Nat.lt_of_lt_of_le (Nat.add_lt_add_right h1 2) (Nat.le_of_ble_eq_true rfl))
theorem ar171 {x0 : Nat} (h1 : x0 ≤ 576460752303423488) : (↑x0 : Int).natAbs < 2 ^ 60 := Nat.lt_of_le_of_lt h1 (Nat.le_of_ble_eq_true rfl)
theorem ar174 {x0 x1 : Nat} (h1 : (↑(x0 / 32) : Int) = (↑(x1 / 32) : Int)) (h2 : (↑(x0 % 32) : Int) = (↑(x1 % 32) : Int)) : x0 = x1 := (Nat.div_add_mod x0 32).symm.trans ((congr (congrArg (fun a b => 32 * a + b) (Int.ofNat.inj h1)) (Int.ofNat.inj h2)).trans (Nat.div_add_mod x1 32))
theorem ar175 {x0 x1 : Nat} (h1 : x0 < x1 + 1) (h2 : x0 ≠ x1) : x0 < x1 := Nat.lt_of_le_of_ne (Nat.le_of_lt_succ h1) h2
theorem ar177 {x0 : Nat} (h1 : x0 ≤ 396) : x0 ≤ 792 := Nat.le_trans h1 (Nat.le_of_ble_eq_true rfl)
theorem ar182 {x0 : Int} : x0 = x0 + (↑0 : Int) := (Int.add_zero _).symm
theorem ar184 {x0 x1 : Nat} (h1 : x0 + 0 = x1 + 1) (h2 : x1 < 8000) : x0 < 9000 := Nat.lt_of_le_of_lt (Nat.le_of_eq h1) (Nat.lt_of_lt_of_le (Nat.succ_lt_succ h2) (Nat.le_of_ble_eq_true rfl))
theorem ar187 {x0 x1 : Nat} (h1 : x0 + 0 = x1 + 1) : ¬x0 ≤ x1 := Nat.not_le.mpr (Nat.le_of_eq h1.symm)
theorem ar190 {x0 x1 x2 : Nat} (h1 : x1 + x2 < 40) (h2 : x0 = x1 + x2) : x0 < 900 := Nat.lt_of_le_of_lt (Nat.le_of_eq h2) (Nat.lt_trans h1 (Nat.le_of_ble_eq_true rfl))
theorem ar191 {x0 x1 x2 : Nat} (h1 : x0 + (x1 + 1) = x2 + 1) : x0 + 1 + x1 = x2 + 1 := (Nat.add_right_comm _ _ _).trans h1
theorem ar192 {x0 x1 x2 : Nat} (h1 : x0 + (x1 + 1) = x2 + 1) (h2 : x2 < 8000) : x0 < 9000 := Nat.lt_of_le_of_lt (Nat.le_trans (Nat.le_add_right _ _) (Nat.le_of_eq h1)) (Nat.lt_of_lt_of_le (Nat.succ_lt_succ h2) (Nat.le_of_ble_eq_true rfl))
theorem ar194 {x0 x1 x2 : Nat} (h1 : x0 + (x2 + 1) = x1 + 1) : x0 ≤ x1 := Nat.le_trans (Nat.le_add_right _ _) (Nat.le_of_eq (Nat.succ.inj h1))
theorem ar195 {x0 x1 x2 : Nat} (h1 : x0 = x1 + x2) : x0 ≤ x1 + x2 + x1 := le_of_eq_of_le h1 (Nat.le_add_right _ _)
theorem ar196 {x0 x1 x2 x3 : Nat} (h1 : x2 + x3 < 40) (h2 : x0 = x2) (h3 : x1 ≤ x2 + x3) : x0 + x1 < 900 := Nat.lt_of_le_of_lt (Nat.add_le_add (Nat.le_trans (Nat.le_of_eq h2) (Nat.le_add_right _ _)) h3) (Nat.lt_of_lt_of_le (Nat.add_lt_add h1 h1) (Nat.le_of_ble_eq_true rfl))
theorem ar197 {x0 x1 x2 : Nat} (h1 : x1 + x2 = x0 + 1) (h2 : x1 + x2 < 40) : x0 < 8000 := Nat.lt_trans (Nat.lt_of_lt_of_le (Nat.le_of_eq h1.symm) (Nat.le_of_lt h2)) (Nat.le_of_ble_eq_true rfl)
theorem ar199 {x0 x1 : Nat} (h1 : x0 < x1 + 1) (h2 : ¬x0 = x1) : x0 < x1 := Nat.lt_of_le_of_ne (Nat.le_of_lt_succ h1) h2
theorem ar200 {x0 x1 : Nat} (h1 : x1 + x0 < 40) : x0 + 1 + (49 - x0) = 50 := (Nat.add_right_comm _ _ _).trans (congrArg (· + 1) (Nat.add_sub_of_le (Nat.le_of_lt (Nat.lt_of_le_of_lt (Nat.le_add_left _ _) (Nat.lt_trans h1 (Nat.le_of_ble_eq_true rfl))))))
theorem ar202 {x0 x1 : Nat} (h1 : x1 ≤ x0) (h2 : x0 ≠ x1) : 0 < x0 - x1 := Nat.sub_pos_of_lt (Nat.lt_of_le_of_ne h1 h2.symm)
theorem ar203 {x0 x1 : Nat} (h1 : x0 ≤ x1) (h2 : x1 ≠ x0) : x0 < x1 := Nat.lt_of_le_of_ne h1 h2.symm
theorem ar204 {x0 x1 : Nat} (h1 : x1 ≤ 576460752303423488) (h2 : x0 ≤ x1) : ((0 : Int) - (↑x0 : Int)).natAbs < 2 ^ 60 := Nat.lt_of_le_of_lt (Nat.le_of_eq ((congrArg Int.natAbs (Int.zero_sub _)).trans (Int.natAbs_neg _))) (Nat.lt_of_le_of_lt (Nat.le_trans h2 h1) (Nat.le_of_ble_eq_true rfl))
theorem ar205 {x0 x1 : Nat} (h1 : x0 ≤ 576460752303423488) (h2 : x1 ≤ x0) : ((↑x0 : Int) + ((0 : Int) - (↑x1 : Int))).natAbs < 2 ^ 60 := Nat.lt_of_le_of_lt (Nat.le_of_eq (congrArg Int.natAbs ((congrArg _ (Int.zero_sub _)).trans (Int.ofNat_sub h2).symm))) (Nat.lt_of_le_of_lt (Nat.le_trans (Nat.sub_le _ _) h1) (Nat.le_of_ble_eq_true rfl))
theorem ar206 {x0 : Nat} : (↑x0 : Int) + ((0 : Int) - (↑x0 : Int)) = (0 : Int) := Eq.symm (Int.sub_eq_iff_eq_add'.mp rfl)
theorem ar207 {x0 x1 : Nat} (h1 : x1 ≤ x0) : (↑x0 : Int) + ((0 : Int) - (↑x1 : Int)) = (↑(x0 - x1) : Int) := (congrArg _ (Int.zero_sub _)).trans (Int.ofNat_sub h1).symm
theorem ar208 {x0 x1 : Nat} (h1 : x0 ≤ 397) (h2 : x1 ≤ 397) : x0 < 10000 ∧ x1 < 10000 := ⟨Nat.lt_of_le_of_lt h1 (Nat.le_of_ble_eq_true rfl), Nat.lt_of_le_of_lt h2 (Nat.le_of_ble_eq_true rfl)⟩
theorem ar210 {x0 x1 : Nat} (h1 : x0 + (x1 + 1) < 10000) : x0 + 1 + x1 < 10000 := Nat.add_right_comm _ _ _ ▸ h1
theorem ar211 {x0 : Nat} (h1 : x0 ≤ 396) : x0 / 32 < 13 := Nat.div_lt_of_lt_mul (Nat.lt_of_le_of_lt h1 (Nat.le_of_ble_eq_true rfl))
theorem ar213 {x0 : Nat} : 32 * (x0 / 32) + x0 % 32 = x0 := Nat.div_add_mod x0 32
theorem ar215 {x0 x1 : Nat} (h1 : x1 ≤ 576460752303423488) (h2 : x1 = x0) : x0 ≤ 576460752303423488 := le_of_eq_of_le h2.symm h1
theorem ar216 {x0 x1 : Nat} (h1 : x1 ≤ 576460752303423488) (h2 : x0 < x1) : x0 ≤ 576460752303423488 := Nat.le_of_lt (Nat.lt_of_lt_of_le h2 h1)
theorem ar218 {x0 x1 : Nat} (h1 : x1 % 32 ≤ 7) (h2 : x0 % 32 ≤ 24) : x0 % 32 + x1 % 32 < 32 := Nat.lt_of_le_of_lt (Nat.add_le_add h2 h1) (Nat.le_of_ble_eq_true rfl)
theorem ar219 {x0 : Nat} (h1 : x0 < 2 ^ 0) : x0 = 0 := Nat.lt_one_iff.mp h1
theorem ar220 {x0 x1 : Nat} : x0 + 1 + x1 = x0 + x1 + 1 := Nat.add_right_comm x0 1 x1
theorem ar221 {x0 : Nat} : 2 * (x0 + 1) + 1 = 2 * x0 + 2 + 1 := by rfl
theorem ar223 {x0 : Nat} (h1 : x0 ≤ 281474976710656) : x0 < 2 ^ 49 := Nat.lt_of_le_of_lt h1 (Nat.le_of_ble_eq_true rfl)
theorem ar225 {x0 x1 : Nat} (h1 : (↑(x1 / 32) : Int) = (↑(x0 / 32) : Int)) (h2 : (↑(x1 % 32) : Int) = (↑(x0 % 32) : Int)) : x0 ≤ x1 := Nat.le_of_eq ((Nat.div_add_mod x0 32).symm.trans ((congr (congrArg (fun a b => 32 * a + b) (Int.ofNat.inj h1.symm)) (Int.ofNat.inj h2.symm)).trans (Nat.div_add_mod x1 32)))
theorem ar226 {x0 x1 : Nat} (h1 : x1 ≤ 281474976710656) (h2 : x0 ≤ x1) : x0 ≤ 576460752303423488 := Nat.le_trans h2 (Nat.le_trans h1 (Nat.le_of_ble_eq_true rfl))
theorem ar227 {x0 x1 : Nat} (h1 : (↑(x0 / 32) : Int) = (↑(x1 / 32) : Int)) : ((↑(x0 % 32) : Int) < (↑(x1 % 32) : Int) ↔ x0 < x1) := Int.ofNat_lt.trans (Nat.add_lt_add_iff_left.symm.trans (iff_of_eq (congr (congrArg LT.lt (Nat.div_add_mod x0 32)) ((congrArg (32 * · + x1 % 32) (Int.ofNat.inj h1)).trans (Nat.div_add_mod x1 32)))))
theorem ar228 {x0 : Nat} : 2 * x0 + 2 = 2 * x0 + 1 + 1 := by rfl
theorem ar229 {x0 x1 : Nat} (h1 : ¬(↑(x0 / 32) : Int) = (↑(x1 / 32) : Int)) : ((↑(x0 / 32) : Int) < (↑(x1 / 32) : Int) ↔ x0 < x1) := Int.ofNat_lt.trans ⟨fun q => Nat.lt_of_not_le fun r => Nat.not_lt.mpr (Nat.div_le_div_right r) q, fun q => Nat.lt_of_le_of_ne (Nat.div_le_div_right (Nat.le_of_lt q)) fun e => h1 (congrArg _ e)⟩
theorem ar230 {x0 : Nat} (h1 : x0 ≤ 397) : x0 < 4000 := Nat.lt_of_le_of_lt h1 (Nat.le_of_ble_eq_true rfl)
theorem ar231 {x0 x1 : Nat} (h1 : x1 ≤ x0) (h2 : x1 % 32 ≤ x0 % 32) : (↑(x0 / 32) : Int) - (↑(x1 / 32) : Int) = (↑((x0 - x1) / 32) : Int) ∧ (↑(x0 % 32) : Int) - (↑(x1 % 32) : Int) = (↑((x0 - x1) % 32) : Int) := ⟨(Int.ofNat_sub (Nat.div_le_div_right h1)).symm.trans (congrArg _ (SBD h1 h2).1.symm), (Int.ofNat_sub h2).symm.trans (congrArg _ (SBD h1 h2).2.symm)⟩
theorem ar232 {x0 x1 x2 x3 : Nat} (h1 : x3 + x0 = x2) (h2 : x1 * 1 ≤ x3) : x0 + x1 ≤ x2 := Nat.le_trans (Nat.add_le_add_left (le_of_eq_of_le (Nat.mul_one _).symm h2) _) (Nat.le_of_eq ((Nat.add_comm _ _).trans h1))
theorem ar233 {x0 : Nat} : x0 * 2 = 2 * x0 := Nat.mul_comm x0 2
theorem ar235 {x0 x1 x2 x3 x4 : Nat} (h1 : x2 < x3) (h2 : x0 < x4) (h3 : x0 + x4 ≤ x2) (h4 : x3 = 2 * x1) : x0 < x1 := Nat.lt_of_mul_lt_mul_left (a := 2) (Nat.lt_of_le_of_lt (Nat.le_trans (Nat.le_of_eq (Nat.two_mul _)) (Nat.le_trans (Nat.add_le_add_left (Nat.le_of_lt h2) _) h3)) (h4 ▸ h1))
theorem ar236 {x0 x1 : Nat} (h1 : x0 ≤ 396) : x0 - x1 ≤ 396 := Nat.le_trans (Nat.sub_le _ _) h1
theorem ar238 {x0 x1 x2 : Nat} (h1 : x0 + 397 * (x2 + 1) ≤ 400000) (h2 : x1 ≤ 397) : x0 + x1 + 397 * x2 ≤ 400000 := Nat.le_trans (Nat.le_trans (Nat.le_of_eq (Nat.add_right_comm _ _ _)) (Nat.add_le_add_left h2 _)) h1
theorem ar239 {x0 x1 x2 : Nat} (h1 : x0 + 397 * (x2 + 1) ≤ 400000) (h2 : x1 ≤ 397) : (↑x0 : Int) + (↑x1 : Int) ≤ (3000000 : Int) := Int.le_trans (Int.ofNat_le.mpr (Nat.add_le_add (Nat.le_trans (Nat.le_add_right _ _) h1) h2)) (of_decide_eq_true rfl)
theorem ar241 {x0 : Nat} (h1 : x0 ≤ 576460752303423488) : (↑x0 : Int) < (2 : Int) ^ 64 := Int.lt_of_le_of_lt (Int.ofNat_le.mpr h1) (of_decide_eq_true rfl)
theorem ar242 {x0 : Nat} (h1 : x0 ≤ 396) : (↑(x0 / 32) : Int) ≤ (20000 : Int) := Int.ofNat_le.mpr (Nat.le_trans (Nat.div_le_self _ _) (Nat.le_trans h1 (Nat.le_of_ble_eq_true rfl)))
theorem ar243 {x0 x1 : Nat} (h1 : x1 ≤ 7) : (x0 * 32 + x1) % 32 ≤ 7 := le_of_eq_of_le (AM h1) h1
theorem ar244 {x0 : Nat} : (↑(x0 % 32) : Int) ≤ (20000 : Int) := Int.ofNat_le.mpr (Nat.le_of_lt (Nat.lt_of_lt_of_le (Nat.mod_lt _ (Nat.le_of_ble_eq_true rfl)) (Nat.le_of_ble_eq_true rfl)))
theorem ar245 {x0 : Nat} (h1 : x0 ≤ 31) : (↑(x0 / 32) : Int) = (0 : Int) := congrArg Int.ofNat (Nat.div_eq_of_lt (Nat.lt_succ_of_le h1))
theorem ar246 {x0 x1 : Nat} (h1 : x0 < 900) : x0 - x1 + 2 < 1000 := Nat.lt_of_le_of_lt (Nat.add_le_add_right (Nat.sub_le _ _) 2) (Nat.lt_of_lt_of_le (Nat.add_lt_add_right h1 2) (Nat.le_of_ble_eq_true rfl))
theorem ar247 {x0 x1 : Int} (h1 : (0 : Int) ≤ x0) (h2 : (0 : Int) = x1) : ¬x0 < x1 := Int.not_lt.mpr (le_of_eq_of_le h2.symm h1)
theorem ar248 {x0 x1 : Int} (h1 : (0 : Int) ≤ x0) (h2 : (0 : Int) = x1) (h3 : ¬x1 < x0) : x0 = (0 : Int) := Int.le_antisymm (h2 ▸ Int.not_lt.mp h3) h1
theorem ar249 {x0 x1 : Nat} (h1 : x0 < 900) : x0 - x1 + 1 < 1000 := Nat.lt_of_le_of_lt (Nat.add_le_add_right (Nat.sub_le _ _) 1) (Nat.lt_of_lt_of_le (Nat.add_lt_add_right h1 1) (Nat.le_of_ble_eq_true rfl))
theorem ar251 {x0 : Nat} (h1 : x0 < 900) : x0 - 2 < 1000 := Nat.lt_of_le_of_lt (Nat.sub_le _ _) (Nat.lt_trans h1 (Nat.le_of_ble_eq_true rfl))
theorem ar252 {x0 x1 : Nat} (h1 : x0 ≤ x1) : (↑(x0 / 32) : Int) ≤ (↑(x1 / 32) : Int) := Int.ofNat_le.mpr (Nat.div_le_div_right h1)
theorem ar253 {x0 x1 : Nat} (h1 : x1 ≤ 7) : (x0 * 32 + x1) / 32 = x0 := (congrArg (·/32) (Nat.add_comm _ _)).trans ((Nat.add_mul_div_right _ _ (Nat.le_of_ble_eq_true rfl)).trans ((congrArg (· + x0) (Nat.div_eq_of_lt (Nat.lt_of_le_of_lt h1 (Nat.le_of_ble_eq_true rfl)))).trans (Nat.zero_add _)))
theorem ar254 {x0 x1 x2 : Nat} (h1 : x0 = x2) (h2 : x1 ≤ x2) : (↑x0 : Int) - (↑x1 : Int) + (2 : Int) = (↑(x2 - x1 + 2) : Int) := (congrArg (fun a : Nat => (a : Int) - x1 + 2) h1).trans (congrArg (· + 2) (Int.ofNat_sub h2).symm)
theorem ar255 {x0 : Nat} (h1 : x0 < 900) : x0 - 1 < 1000 := Nat.lt_of_le_of_lt (Nat.sub_le _ _) (Nat.lt_trans h1 (Nat.le_of_ble_eq_true rfl))
theorem ar256 {x0 x1 x2 : Nat} (h1 : x0 = x1 + 1 + x2) : x0 = x1 + (x2 + 1) := h1.trans (Nat.add_right_comm _ _ _)
theorem ar257 {x0 x1 : Nat} (h1 : x0 % 32 ≤ x1 % 32) : (↑(x0 % 32) : Int) ≤ (↑(x1 % 32) : Int) := Int.ofNat_le.mpr h1
theorem ar258 {x0 x1 x2 : Nat} (h1 : x0 = x1) (h2 : x2 ≤ x1) (h3 : 2 ≤ x2) : (↑x0 : Int) - (2 : Int) = (↑(x1 - 2) : Int) := (congrArg (fun a : Nat => (a : Int) - 2) h1).trans (Int.ofNat_sub (Nat.le_trans h3 h2)).symm
theorem ar260 {x0 x1 x2 : Nat} (h1 : x0 = x2) (h2 : x1 ≤ x2) : (↑x0 : Int) - (↑x1 : Int) + (1 : Int) = (↑(x2 - x1 + 1) : Int) := (congrArg (fun a : Nat => (a : Int) - x1 + 1) h1).trans (congrArg (· + 1) (Int.ofNat_sub h2).symm)
theorem ar262 {x0 x1 x2 : Nat} (h1 : x0 = x1) (h2 : x2 ≤ x1) (h3 : 2 ≤ x2) : (↑x0 : Int) - (1 : Int) = (↑(x1 - 1) : Int) := by subst h1; exact (Int.ofNat_sub (Nat.le_of_lt (Nat.lt_of_lt_of_le h3 h2))).symm
theorem ar263 {x0 x1 x2 : Nat} (h1 : x0 = x2) (h2 : x1 ≤ x2) : (↑x0 : Int) - (↑x1 : Int) = (↑(x2 - x1) : Int) := (congrArg (fun a : Nat => (a : Int) - x1) h1).trans (Int.ofNat_sub h2).symm
theorem ar264 {x0 x1 : Nat} (h1 : x0 < 900) : x0 - x1 < 1000 := Nat.lt_of_le_of_lt (Nat.sub_le _ _) (Nat.lt_trans h1 (Nat.le_of_ble_eq_true rfl))
theorem ar267 {x0 x1 x2 : Nat} (h1 : x1 = x2) (h2 : x0 ≤ x2 - x0) : (↑x0 : Int) ≤ (↑x1 : Int) - (↑x0 : Int) := Int.le_sub_right_of_add_le (Int.ofNat_le.mpr (Nat.le_trans ((Nat.le_total x0 x2).elim (fun l => Nat.add_le_of_le_sub l h2) (fun l => Nat.le_zero.mp (Nat.le_trans h2 (Nat.le_of_eq (Nat.sub_eq_zero_of_le l))) ▸ Nat.zero_le _)) (Nat.le_of_eq h1.symm)))
theorem ar268 {x0 x1 x2 : Nat} (h1 : x1 = x2) (h2 : ¬x0 ≤ x2 - x0) : ¬(↑x0 : Int) ≤ (↑x1 : Int) - (↑x0 : Int) := fun q => h2 (Nat.le_sub_of_add_le (Nat.le_trans (Int.ofNat_le.mp (Int.add_le_of_le_sub_right q)) (Nat.le_of_eq h1)))
theorem ar269 {x0 x1 : Nat} (h1 : x0 = x1) (h2 : x1 < 900) : x0 < 10000 := Nat.lt_of_le_of_lt (Nat.le_of_eq h1) (Nat.lt_trans h2 (Nat.le_of_ble_eq_true rfl))
theorem ar271 {x0 : Nat} (h1 : 0 < x0) : (↑x0 : Int) - (1 : Int) = (↑(x0 - 1 - 0) : Int) := (Int.ofNat_sub h1).symm
theorem ar272 {x0 : Nat} (h1 : 4 ≤ x0) : (↑x0 : Int) - (2 : Int) = (↑(x0 - 1 - 1) : Int) := (Int.ofNat_sub (Nat.le_trans (Nat.le_of_ble_eq_true rfl) h1)).symm
theorem ar273 {x0 x1 x2 : Nat} (h1 : x1 = x2 + 1) (h2 : x0 < x2) : x0 + 1 < x1 := Nat.lt_of_lt_of_eq (Nat.succ_lt_succ h2) h1.symm
theorem ar274 {x0 : Nat} (h1 : x0 < 900) : x0 - 1 - 1 < 1000 := Nat.lt_of_le_of_lt (Nat.sub_le _ 2) (Nat.lt_trans h1 (Nat.le_of_ble_eq_true rfl))
theorem ar275 {x0 : Nat} (h1 : x0 < 900) : x0 - 1 - 0 < 1000 := Nat.lt_of_le_of_lt (Nat.sub_le _ 1) (Nat.lt_trans h1 (Nat.le_of_ble_eq_true rfl))
theorem ar276 {x0 x1 : Nat} (h1 : 4 ≤ x1) (h2 : x1 ≤ x0) : x0 - 1 - (x1 - 3) = x0 - x1 + 2 := by obtain ⟨y, rfl⟩ := Nat.exists_eq_add_of_le' h1; exact (Nat.sub_right_comm _ _ _).trans (Nat.sub_add_cancel (Nat.le_trans (Nat.le_of_eq (Nat.add_sub_cancel_left (n := y + 2) (m := 2)).symm) (Nat.sub_le_sub_right h2 (y + 2)))).symm
theorem ar277 {x0 x1 : Nat} : x0 + 1 - 1 - (x1 + 1) = x0 - 1 - x1 := Nat.add_sub_sub_add_right x0 1 x1 1
theorem ar278 {x0 x1 : Nat} (h1 : x1 ≤ x0) : (↑x0 : Int) - (↑x1 : Int) + (2 : Int) = (↑(x0 - x1 + 2) : Int) := congrArg (· + 2) (Int.ofNat_sub h1).symm
theorem ar279 {x0 x1 : Nat} (h1 : 2 ≤ x1) (h2 : x1 - 1 < x0) : x0 - 1 - (x1 - 2) = x0 - x1 + 1 := by obtain ⟨y, rfl⟩ := Nat.exists_eq_add_of_le' h1; exact (Nat.sub_right_comm _ _ _).trans (Nat.sub_add_cancel (Nat.sub_pos_of_lt h2)).symm
theorem ar280 {x0 x1 : Nat} (h1 : 2 ≤ x1) : x0 - 1 - (x1 - 1) = x0 - x1 := (Nat.sub_sub _ _ _).trans (congrArg (x0 - ·) (Nat.add_sub_of_le (Nat.le_of_lt h1)))
theorem ar281 {x0 x1 : Nat} (h1 : x0 < 900) : x0 - 1 - (x1 - 3) < 1000 := Nat.lt_of_le_of_lt (Nat.sub_le _ _) (Nat.lt_of_le_of_lt (Nat.sub_le _ _) (Nat.lt_trans h1 (Nat.le_of_ble_eq_true rfl)))
theorem ar283 {x0 x1 : Nat} (h1 : x1 - 1 < x0) : (↑x0 : Int) - (↑x1 : Int) + (1 : Int) = (↑(x0 - x1 + 1) : Int) := congrArg (· + 1) (Int.ofNat_sub (Nat.le_of_pred_lt h1)).symm
theorem ar285 {x0 x1 : Nat} (h1 : x0 < 900) : x0 - 1 - (x1 - 2) < 1000 := Nat.lt_of_le_of_lt (Nat.sub_le _ _) (Nat.lt_of_le_of_lt (Nat.sub_le _ _) (Nat.lt_trans h1 (Nat.le_of_ble_eq_true rfl)))
theorem ar286 {x0 x1 : Nat} (h1 : x1 - 1 < x0) : (↑x0 : Int) - (↑x1 : Int) = (↑(x0 - x1) : Int) := (Int.ofNat_sub (Nat.le_of_pred_lt h1)).symm
theorem ar287 {x0 x1 : Nat} (h1 : x0 < 900) : x0 - 1 - (x1 - 1) < 1000 := Nat.lt_of_le_of_lt (Nat.sub_le _ _) (Nat.lt_of_le_of_lt (Nat.sub_le _ _) (Nat.lt_trans h1 (Nat.le_of_ble_eq_true rfl)))
theorem ar288 {x0 : Nat} (h1 : x0 ≤ 10000) : (↑x0 : Int) ≤ (10000 : Int) := Int.ofNat_le.mpr h1
theorem ar289 {x0 : Nat} (h1 : 0 < x0) (h2 : x0 ≤ 4) : (↑x0 : Int) = (1 : Int) ∨ (↑x0 : Int) = (2 : Int) ∨ (↑x0 : Int) = (3 : Int) ∨ (↑x0 : Int) = (4 : Int) := (Nat.lt_succ_iff_lt_or_eq.mp (Nat.lt_succ_of_le h2)).elim (fun h => (Nat.lt_succ_iff_lt_or_eq.mp h).elim (fun h => (Nat.lt_succ_iff_lt_or_eq.mp h).elim (fun h => .inl (congrArg Int.ofNat (Nat.le_antisymm (Nat.le_of_lt_succ h) h1))) (fun h => .inr (.inl (congrArg Int.ofNat h)))) (fun h => .inr (.inr (.inl (congrArg Int.ofNat h))))) (fun h => .inr (.inr (.inr (congrArg Int.ofNat h))))
theorem ar290 {x0 x1 x2 : Nat} (h1 : x1 + (x0 + x2) ≤ 576460752303423488) : x0 ≤ 576460752303423488 := Nat.le_trans (Nat.le_add_right _ _) (Nat.le_trans (Nat.le_add_left _ _) h1)
theorem ar291 {x0 : Nat} (h1 : x0 ≤ 396) : x0 / 32 ≤ 10000 := Nat.le_trans (Nat.div_le_self _ _) (Nat.le_trans h1 (Nat.le_of_ble_eq_true rfl))
theorem ar292 {x0 x1 x2 x3 x4 : Nat} (h1 : x1 + (x3 + x4) ≤ 576460752303423488) (h2 : x2 ≤ x3) (h3 : x0 ≤ x2) : x0 ≤ 576460752303423488 := Nat.le_trans h3 (Nat.le_trans h2 (Nat.le_trans (Nat.le_add_right _ _) (Nat.le_trans (Nat.le_add_left _ _) h1)))
theorem ar293 {x0 : Nat} : x0 % 32 ≤ 10000 := Nat.le_of_lt (Nat.lt_of_lt_of_le (Nat.mod_lt _ (Nat.le_of_ble_eq_true rfl)) (Nat.le_of_ble_eq_true rfl))
theorem ar294 {x0 x1 x2 : Nat} (h1 : x0 + (x1 + x2) ≤ 576460752303423488) : x0 + x1 ≤ 576460752303423488 := Nat.le_trans (Nat.add_le_add_left (Nat.le_add_right _ _) _) h1
theorem ar295 {x0 x1 x2 : Nat} (h1 : x0 + (x1 + x2) ≤ 576460752303423488) : x0 + x1 + x2 ≤ 576460752303423488 := le_of_eq_of_le (Nat.add_assoc _ _ _) h1
theorem ar296 {x0 : Nat} (h1 : x0 < 9000) : 1 + x0 < 10000 := Nat.lt_of_lt_of_le (Nat.add_lt_add_left h1 1) (Nat.le_of_ble_eq_true rfl)
theorem ar297 {x0 x1 x2 : Nat} (h1 : x1 < x2) (h2 : x0 = x2 + 1) : x0 ≠ x1 := Nat.ne_of_gt (Nat.lt_of_lt_of_eq (Nat.lt_succ_of_lt h1) h2.symm)
theorem ar298 {x0 : Nat} : (0 : Int) < (↑(x0 + 1) : Int) := Int.ofNat_succ_pos x0
theorem ar300 {x0 x1 x2 : Nat} (h1 : x2 = x0 + 1) (h2 : x1 = x2 + 1) : x0 ≠ x1 := Nat.ne_of_lt (Nat.lt_of_lt_of_eq (Nat.lt_succ_of_lt (Nat.lt_of_lt_of_eq (Nat.lt_succ_self _) h1.symm)) h2.symm)
theorem ar301 {x0 x1 : Nat} (h1 : x1 = x0 + 1) : x0 ≠ x1 := Nat.ne_of_lt (Nat.lt_of_lt_of_eq (Nat.lt_succ_self _) h1.symm)
theorem ar303 {x0 x1 x2 x3 : Nat} (h1 : x3 ≤ x0) (h2 : x1 < x2) (h3 : x2 ≤ x3) : x0 ≠ x1 := Nat.ne_of_gt (Nat.lt_of_lt_of_le h2 (Nat.le_trans h3 h1))
end Mine
namespace Mine
open PySem
inductive V where
  | none | bool (b : Bool) | int (i : Int) | str (s : Str) | tup (vs : List V) | obj (n : Nat) | ilist (ns : List Int)
inductive Cell where
  | dict (es : List (List Int × V)) (ep : Nat)
  | list (vs : List V)
noncomputable abbrev Store := List Cell
noncomputable abbrev Rho := List (Str × Option V)
noncomputable abbrev Nm := List (Str × NameKind)
noncomputable def rget : Rho → Str → Option V
  | [], _ => .none
  | (y, v) :: r, x => match x == y with
    | true => v
    | false => rget r x
noncomputable def rset : Rho → Str → V → Option Rho
  | [], _, _ => .none
  | (y, v) :: r, x, w => match x == y with
    | true => some ((y, some w) :: r)
    | false => match rset r x w with
      | some r' => some ((y, v) :: r')
      | .none => .none
noncomputable def intsOf : List V → Option (List Int)
  | [] => some []
  | .int i :: r => match intsOf r with
    | some l => some (i :: l)
    | .none => .none
  | _ :: _ => .none
noncomputable def boolsOf : List V → Option (List Bool)
  | [] => some []
  | .bool i :: r => match boolsOf r with
    | some l => some (i :: l)
    | .none => .none
  | _ :: _ => .none
noncomputable def dget : List (List Int × V) → List Int → Option V
  | [], _ => .none
  | (k, v) :: r, x => if k = x then some v else dget r x
noncomputable def dput (es : List (List Int × V)) (k : List Int) (v : V) : List (List Int × V) :=
  match dget es k with
  | some _ => es.map fun e => if e.1 = k then (e.1, v) else e
  | .none => es ++ [(k, v)]
noncomputable def ddel (es : List (List Int × V)) (k : List Int) : List (List Int × V) := es.filter fun e => !decide (e.1 = k)
noncomputable def setD (es : List (List Int × V)) (ep : Nat) (k : List Int) (v : V) : Cell :=
  .dict (dput es k v) (match dget es k with | some _ => ep | .none => ep + 1)
noncomputable def lim : Nat := 10000
noncomputable def big : Nat := 2 ^ 60
noncomputable def binop (op : Operator) (a b : V) (σ : Store) : Option (V × Store) :=
  match a, b with
  | .int x, .int y => match op with
    | .Add => some (.int (x + y), σ)
    | .Sub => some (.int (x - y), σ)
    | .Mult => if x.natAbs < big ∧ y.natAbs < big then some (.int (x * y), σ) else .none
    | .FloorDiv => if y ≠ 0 ∧ x.natAbs < big ∧ y.natAbs < big then some (.int (x.fdiv y), σ) else .none
    | .Mod => if y ≠ 0 then some (.int (x.fmod y), σ) else .none
    | .Pow => if 0 ≤ y ∧ y ≤ 10000 ∧ x.natAbs < big then some (.int (x ^ y.toNat), σ) else .none
    | _ => .none
  | .obj n, .obj m => match op, σ[n]?, σ[m]? with
    | .Add, some (.list xs), some (.list ys) => if xs.length + ys.length < lim then some (.obj σ.length, σ ++ [.list (xs ++ ys)]) else .none
    | _, _, _ => .none
  | _, _ => .none
/-- the later of two rows of ints is greater -/
noncomputable def lexLt : List Int → List Int → Bool
  | [], [] => false
  | [], _ :: _ => true
  | _ :: _, [] => false
  | x :: xs, y :: ys => if x = y then lexLt xs ys else decide (x < y)
noncomputable def isNoneV : V → Bool
  | .none => true
  | _ => false
noncomputable def cmp (op : CmpOp) (a b : V) (σ : Store) : Option Bool :=
  match a, b with
  | .int x, .int y => match op with
    | .Eq => some (x == y)
    | .NotEq => some (x != y)
    | .Lt => some (decide (x < y))
    | .LtE => some (decide (x ≤ y))
    | .Gt => some (decide (y < x))
    | .GtE => some (decide (y ≤ x))
    | _ => .none
  | .str x, .str y => match op with
    | .Eq => some (x == y)
    | _ => .none
  | .tup xs, .tup ys => match intsOf xs, intsOf ys with
    | some ks, some ls => match op with
      | .Eq => some (decide (ks = ls))
      | .NotEq => some (!decide (ks = ls))
      | .Gt => some (lexLt ls ks)
      | _ => .none
    | _, _ => .none
  | .tup xs, .obj m => match op, intsOf xs, σ[m]? with
    | .In, some ks, some (.dict es _) => some (dget es ks).isSome
    | _, _, _ => .none
  | .obj n, .obj m => match op, σ[n]?, σ[m]? with
    | .NotEq, some (.list xs), some (.list []) => some (!xs.isEmpty)
    | _, _, _ => .none
  | a, .none => match op with
    | .Is => some (isNoneV a)
    | .IsNot => some (!isNoneV a)
    | _ => .none
  | _, _ => .none
noncomputable def at? (vs : List V) (i : Int) : Option V :=
  if 0 ≤ i then (if i < 2 ^ 62 then vs[i.toNat]? else .none)
  else if -(vs.length : Int) ≤ i ∧ vs.length < lim then vs[(i + vs.length).toNat]? else .none
noncomputable def getitem (a i : V) (σ : Store) : Option V :=
  match a, i with
  | .tup vs, .int i => at? vs i
  | .obj n, .int i => match σ[n]? with
    | some (.list vs) => at? vs i
    | _ => .none
  | .obj n, .tup ks => match σ[n]?, intsOf ks with
    | some (.dict es _), some k => dget es k
    | _, _ => .none
  | _, _ => .none
noncomputable def setitem (a i v : V) (σ : Store) : Option Store :=
  match a, i with
  | .obj n, .int i => match σ[n]? with
    | some (.list vs) => if 0 ≤ i ∧ i < vs.length ∧ i < 2 ^ 62 then some (σ.set n (.list (vs.set i.toNat v))) else .none
    | _ => .none
  | .obj n, .tup ks => match σ[n]?, intsOf ks with
    | some (.dict es ep), some k => if es.length < lim then some (σ.set n (setD es ep k v)) else .none
    | _, _ => .none
  | _, _ => .none
noncomputable def hashK (k : List Int) : Int := reduceHash (Builtin.Tuple.tupleHashOf (k.map hashInt))
noncomputable def apart : List Int → Bool
  | [] => true
  | x :: r => r.all (fun y => x != y) && apart r
noncomputable def methodV (o : V) (name : Str) (args : List V) (σ : Store) : Option (V × Store) :=
  match o, args with
  | .obj n, [v] => if name = Str.ofString "append" then (match σ[n]? with
      | some (.list vs) => if vs.length < lim then some (.none, σ.set n (.list (vs ++ [v]))) else .none
      | _ => .none) else .none
  | .obj n, [.tup ks, d] => if name = Str.ofString "pop" then (match σ[n]?, intsOf ks with
      | some (.dict es ep), some k => if es.length < lim then (match dget es k with
        | some v => some (v, σ.set n (.dict (ddel es k) (ep + 1)))
        | .none => some (d, σ)) else .none
      | _, _ => .none) else .none
  | _, _ => .none
/-- what a method's name is looked up on, ahead of its arguments -/
noncomputable def methPre (o : V) (name : Str) (σ : Store) : Bool :=
  match o with
  | .obj n => match σ[n]? with
    | some (.list _) => decide (name = Str.ofString "append")
    | some (.dict _ _) => decide (name = Str.ofString "pop")
    | .none => false
  | _ => false
inductive Bi where
  | abs | len | max | min | sum | tuple | dict | any | int
noncomputable def biOf (f : Str) : Option Bi :=
  if f = Str.ofString "abs" then some .abs else if f = Str.ofString "len" then some .len
  else if f = Str.ofString "max" then some .max else if f = Str.ofString "min" then some .min
  else if f = Str.ofString "sum" then some .sum else if f = Str.ofString "tuple" then some .tuple
  else if f = Str.ofString "dict" then some .dict else if f = Str.ofString "any" then some .any
  else if f = Str.ofString "int" then some .int else .none
noncomputable def maxL (x : Int) : List Int → Int
  | [] => x
  | y :: r => maxL (if y > x then y else x) r
noncomputable def minL (x : Int) : List Int → Int
  | [] => x
  | y :: r => minL (if y < x then y else x) r
noncomputable def sumL (x : Int) : List Int → Int
  | [] => x
  | y :: r => sumL (x + y) r
noncomputable def biCall (b : Bi) (args : List V) (σ : Store) : Option (V × Store) :=
  match b, args with
  | .abs, [.int i] => some (.int (if i < 0 then -i else i), σ)
  | .int, [.int i] => some (.int i, σ)
  | .max, [.int a, .int b] => some (.int (if b > a then b else a), σ)
  | .len, [.obj n] => match σ[n]? with
    | some (.list vs) => if vs.length < lim then some (.int vs.length, σ) else .none
    | some (.dict es _) => if es.length < lim then some (.int es.length, σ) else .none
    | .none => .none
  | .max, [.obj n] => match σ[n]? with
    | some (.list vs) => match intsOf vs with
      | some (x :: r) => some (.int (maxL x r), σ)
      | _ => .none
    | _ => .none
  | .min, [.obj n] => match σ[n]? with
    | some (.list vs) => match intsOf vs with
      | some (x :: r) => some (.int (minL x r), σ)
      | _ => .none
    | _ => .none
  | .sum, [.obj n] => match σ[n]? with
    | some (.list vs) => match intsOf vs with
      | some l => some (.int (sumL 0 l), σ)
      | _ => .none
    | _ => .none
  | .tuple, [.obj n] => match σ[n]? with
    | some (.list vs) => if vs.length < lim then some (.tup vs, σ) else .none
    | _ => .none
  | .any, [.obj n] => match σ[n]? with
    | some (.list vs) => match boolsOf vs with
      | some l => some (.bool (l.any id), σ)
      | _ => .none
    | _ => .none
  | .dict, [.obj n] => match σ[n]? with
    | some (.dict es _) => if es.length < lim ∧ apart (es.map fun e => hashK e.1) = true then some (.obj σ.length, σ ++ [.dict es (if es.isEmpty then 0 else 1)]) else .none
    | _ => .none
  | _, _ => .none
inductive It where
  | dict (n i len ep : Nat)
  | list (n i : Nat)
  | items (vs : List V) (i : Nat)
  | range (x : Int) (left : Nat)
  | enumL (n i : Nat)
  | enumT (vs : List V) (i : Nat)
noncomputable def nextI (it : It) (σ : Store) : Option (Option (V × It)) :=
  match it with
  | .dict n i len ep => match σ[n]? with
    | some (.dict es ep') => if es.length = len ∧ ep' = ep then (match es[i]? with
        | some e => some (some (.tup (e.1.map V.int), .dict n (i + 1) len ep))
        | .none => some .none) else .none
    | _ => .none
  | .list n i => match σ[n]? with
    | some (.list vs) => match vs[i]? with
      | some v => some (some (v, .list n (i + 1)))
      | .none => some .none
    | _ => .none
  | .items vs i => match vs[i]? with
    | some v => some (some (v, .items vs (i + 1)))
    | .none => some .none
  | .range x left => match left with
    | 0 => some .none
    | l + 1 => some (some (.int x, .range (x + 1) l))
  | .enumL n i => match σ[n]? with
    | some (.list vs) => match vs[i]? with
      | some v => some (some (.tup [.int i, v], .enumL n (i + 1)))
      | .none => some .none
    | _ => .none
  | .enumT vs i => match vs[i]? with
    | some v => some (some (.tup [.int i, v], .enumT vs (i + 1)))
    | .none => some .none
/-- the targets that stand with an iterator -/
noncomputable def tgtOk (t : Expr) (it : It) : Bool :=
  match t, it with
  | .Name .., .enumL .. => false
  | .Name .., .enumT .. => false
  | .Name .., _ => true
  | .Tuple .., .enumL .. => true
  | .Tuple .., .enumT .. => true
  | _, _ => false
noncomputable def iterV (v : V) (σ : Store) : Option It :=
  match v with
  | .tup vs => some (.items vs 0)
  | .obj n => match σ[n]? with
    | some (.list _) => some (.list n 0)
    | some (.dict es ep) => some (.dict n 0 es.length ep)
    | .none => .none
  | _ => .none
noncomputable def setNames : List Expr → List V → Rho → Option Rho
  | [], [], ρ => some ρ
  | .Name x _ :: ts, v :: vs, ρ => match rset ρ x v with
    | some ρ' => setNames ts vs ρ'
    | .none => .none
  | _, _, _ => .none
noncomputable def assignT (t : Expr) (v : V) (ρ : Rho) : Option Rho :=
  match t, v with
  | .Name x _, v => rset ρ x v
  | .Tuple ts _ _, .tup vs => setNames ts vs ρ
  | _, _ => .none
inductive Fl where
  | next | cont | ret (v : V)
structure Cx where
  nm : Nm
  fr : List (Str × V)
structure Ev where
  e : Cx → Expr → Rho → Store → Option (V × Store)
  t : Cx → Expr → Rho → Store → Option (Bool × Store)
  s : Cx → List Stmt → Rho → Store → Option (Fl × Rho × Store)
structure Tb where
  isFn : Str → Bool
  gl : Str → Option V
  call : Str → List V → Store → Option (V × Store)
noncomputable def name (T : Tb) (cx : Cx) (x : Str) (ρ : Rho) : Option V :=
  match cx.nm.lookup x with
  | some .globalImplicit => T.gl x
  | some .local => rget ρ x
  | some .cell => match rget ρ x with
    | some v => some v
    | .none => cx.fr.lookup x
  | _ => .none
noncomputable def evalL (ih : Ev) (cx : Cx) : List Expr → Rho → Store → Option (List V × Store)
  | [], _, σ => some ([], σ)
  | .Starred .. :: _, _, _ => .none
  | e :: r, ρ, σ => match ih.e cx e ρ σ with
    | some (v, σ1) => match evalL ih cx r ρ σ1 with
      | some (vs, σ2) => some (v :: vs, σ2)
      | .none => .none
    | .none => .none
noncomputable def bud : Nat := 1000000000
noncomputable def iterE (T : Tb) (ih : Ev) (cx : Cx) (e : Expr) (ρ : Rho) (σ : Store) : Option (It × Store) :=
  match e with
  | .Call (.Name f p) [a] [] q =>
    if cx.nm.lookup f = some .globalImplicit then
      (if f = Str.ofString "enumerate" then (match evalL ih cx [a] ρ σ with
        | some ([.tup vs], σ1) => some (.enumT vs 0, σ1)
        | some ([.obj n], σ1) => match σ1[n]? with
          | some (.list _) => some (.enumL n 0, σ1)
          | _ => .none
        | _ => .none)
      else if f = Str.ofString "range" then (match evalL ih cx [a] ρ σ with
        | some ([.int n], σ1) => if 0 ≤ n ∧ n < 10000 then some (.range 0 n.toNat, σ1) else .none
        | _ => .none)
      else (match ih.e cx (.Call (.Name f p) [a] [] q) ρ σ with
        | some (v, σ1) => match iterV v σ1 with
          | some it => some (it, σ1)
          | .none => .none
        | .none => .none)) else .none
  | .Name x p => match ih.e cx (.Name x p) ρ σ with
    | some (v, σ1) => match iterV v σ1 with
      | some it => some (it, σ1)
      | .none => .none
    | .none => .none
  | .Tuple ts k p => match ih.e cx (.Tuple ts k p) ρ σ with
    | some (v, σ1) => match iterV v σ1 with
      | some it => some (it, σ1)
      | .none => .none
    | .none => .none
  | .Subscript a b p => match ih.e cx (.Subscript a b p) ρ σ with
    | some (v, σ1) => match iterV v σ1 with
      | some it => some (it, σ1)
      | .none => .none
    | .none => .none
  | _ => .none
noncomputable def testsL (ih : Ev) (cx : Cx) : List Expr → Rho → Store → Option (Bool × Store)
  | [], _, σ => some (true, σ)
  | e :: r, ρ, σ => match ih.t cx e ρ σ with
    | some (true, σ1) => testsL ih cx r ρ σ1
    | some (false, σ1) => some (false, σ1)
    | .none => .none
/-- one clause of a comprehension, from an iterator -/
noncomputable def compL (ih : Ev) (cx : Cx) (inner : Rho → Store → Option (Rho × Store)) (target : Expr) (ifs : List Expr) : Nat → It → Rho → Store → Option (Rho × Store)
  | 0, _, _, _ => .none
  | k + 1, it, ρ, σ => match tgtOk target it, nextI it σ with
    | false, _ => .none
    | true, .none => .none
    | true, some .none => some (ρ, σ)
    | true, some (some (v, it')) => match assignT target v ρ with
      | .none => .none
      | some ρ1 => match testsL ih cx ifs ρ1 σ with
        | .none => .none
        | some (false, σ1) => compL ih cx inner target ifs k it' ρ1 σ1
        | some (true, σ1) => match inner ρ1 σ1 with
          | .none => .none
          | some (ρ2, σ2) => compL ih cx inner target ifs k it' ρ2 σ2
noncomputable def compGs (T : Tb) (ih : Ev) (cx : Cx) (emit : Rho → Store → Option Store) : List Comprehension → Rho → Store → Option (Rho × Store)
  | [], ρ, σ => match emit ρ σ with
    | some σ1 => some (ρ, σ1)
    | .none => .none
  | g :: gs, ρ, σ => if g.is_async = 0 then (match iterE T ih cx g.iter ρ σ with
      | some (it, σ1) => compL ih cx (compGs T ih cx emit gs) g.target g.ifs bud it ρ σ1
      | .none => .none) else .none
noncomputable def emitList (ih : Ev) (cx : Cx) (acc : Nat) (elt : Expr) (ρ : Rho) (σ : Store) : Option Store :=
  match ih.e cx elt ρ σ with
  | some (v, σ1) => match σ1[acc]? with
    | some (.list vs) => if vs.length < lim then some (σ1.set acc (.list (vs ++ [v]))) else .none
    | _ => .none
  | .none => .none
noncomputable def emitDict (ih : Ev) (cx : Cx) (acc : Nat) (k v : Expr) (ρ : Rho) (σ : Store) : Option Store :=
  match ih.e cx k ρ σ with
  | some (.tup ks, σ1) => match ih.e cx v ρ σ1 with
    | some (w, σ2) => match σ2[acc]?, intsOf ks with
      | some (.dict es ep), some kk => if es.length < lim then some (σ2.set acc (setD es ep kk w)) else .none
      | _, _ => .none
    | .none => .none
  | _ => .none
noncomputable def ownNames : Nm → Rho
  | [] => []
  | (x, .local) :: r => (x, Option.none) :: ownNames r
  | (x, .cell) :: r => (x, Option.none) :: ownNames r
  | _ :: r => ownNames r
noncomputable def freeVals (ρ : Rho) : Nm → Option (List (Str × V))
  | [] => some []
  | (x, .free) :: r => match rget ρ x, freeVals ρ r with
    | some v, some l => some ((x, v) :: l)
    | _, _ => .none
  | _ :: r => freeVals ρ r
/-- the block of a comprehension inside a function's own block: its names of the outer block are that block's cells -/
noncomputable def compNm (scope : Scope) : Nm := scope.names.map fun x => if x.2 == .free then (x.1, .cell) else x
noncomputable def noDup : Nm → Bool
  | [] => true
  | x :: r => (r.all fun y => !(y.1 == x.1)) && noDup r
noncomputable def compOk (cx : Cx) (scope : Scope) : Bool :=
  cx.fr.isEmpty && scope.kind == .function && noDup scope.names && scope.names.all fun x =>
    (x.2 == .local && scope.names.lookup x.1 == some .local) || (x.2 == .free && cx.nm.lookup x.1 == some .cell && scope.names.lookup x.1 == some .free) || x.2 == .globalImplicit
noncomputable def comp (T : Tb) (ih : Ev) (cx : Cx) (gens : List Comprehension) (scope : Scope) (acc0 : Cell) (emit : Cx → Nat → Rho → Store → Option Store) (ρ : Rho) (σ : Store) : Option (V × Store) :=
  match gens with
  | [] => .none
  | g :: gs => if compOk cx scope = true ∧ g.is_async = 0 then (match iterE T ih cx g.iter ρ σ with
    | some (it, σ1) => match freeVals ρ scope.names with
      | some fr => match compL ih ⟨compNm scope, fr⟩ (compGs T ih ⟨compNm scope, fr⟩ (emit ⟨compNm scope, fr⟩ σ1.length) gs) g.target g.ifs bud it (ownNames scope.names) (σ1 ++ [acc0]) with
        | some (_, σ2) => some (.obj σ1.length, σ2)
        | .none => .none
      | .none => .none
    | .none => .none) else .none
noncomputable def boolE (ih : Ev) (cx : Cx) (op : BoolOp) : List Expr → Rho → Store → Option (V × Store)
  | [], _, _ => .none
  | [e], ρ, σ => ih.e cx e ρ σ
  | e :: r, ρ, σ => match ih.e cx e ρ σ with
    | some (.bool b, σ1) => match op, b with
      | .And, false => some (.bool false, σ1)
      | .Or, true => some (.bool true, σ1)
      | _, _ => boolE ih cx op r ρ σ1
    | _ => .none
noncomputable def boolT (ih : Ev) (cx : Cx) (op : BoolOp) : List Expr → Rho → Store → Option (Bool × Store)
  | [], _, σ => some (op == .And, σ)
  | e :: r, ρ, σ => match ih.t cx e ρ σ with
    | some (b, σ1) => match op, b with
      | .And, false => some (false, σ1)
      | .Or, true => some (true, σ1)
      | _, _ => boolT ih cx op r ρ σ1
    | .none => .none
noncomputable def stepE (T : Tb) (ih : Ev) (cx : Cx) (e : Expr) (ρ : Rho) (σ : Store) : Option (V × Store) :=
  match e with
  | .Constant c _ _ => match c with
    | .none => some (.none, σ)
    | .bool b => some (.bool b, σ)
    | .int i => some (.int i, σ)
    | .str s => some (.str s, σ)
    | _ => .none
  | .Name x _ => match x == Str.ofString "__debug__" with
    | true => .none
    | false => match name T cx x ρ with
      | some v => some (v, σ)
      | .none => .none
  | .BoolOp op vs _ => boolE ih cx op vs ρ σ
  | .BinOp l op r _ => match ih.e cx l ρ σ with
    | some (a, σ1) => match ih.e cx r ρ σ1 with
      | some (b, σ2) => binop op a b σ2
      | .none => .none
    | .none => .none
  | .UnaryOp .USub x _ => match ih.e cx x ρ σ with
    | some (.int i, σ1) => some (.int (-i), σ1)
    | _ => .none
  | .IfExp t b o _ => match ih.t cx t ρ σ with
    | some (true, σ1) => ih.e cx b ρ σ1
    | some (false, σ1) => ih.e cx o ρ σ1
    | .none => .none
  | .Dict [] [] _ => some (.obj σ.length, σ ++ [.dict [] 0])
  | .Dict [some k] [v] _ => match ih.e cx k ρ (σ ++ [.dict [] 0]) with
    | some (.tup ks, σ1) => match ih.e cx v ρ σ1 with
      | some (w, σ2) => match σ2[σ.length]?, intsOf ks with
        | some (.dict es ep), some kk => if es.length < lim then some (.obj σ.length, σ2.set σ.length (setD es ep kk w)) else .none
        | _, _ => .none
      | .none => .none
    | _ => .none
  | .List es _ => match evalL ih cx es ρ σ with
    | some (vs, σ1) => if vs.length < lim then some (.obj σ1.length, σ1 ++ [.list vs]) else .none
    | .none => .none
  | .Tuple es _ _ => match evalL ih cx es ρ σ with
    | some (vs, σ1) => if vs.length < lim then some (.tup vs, σ1) else .none
    | .none => .none
  | .ListComp elt gens scope _ => comp T ih cx gens scope (.list []) (fun cx' acc => emitList ih cx' acc elt) ρ σ
  | .DictComp k v [g] scope _ => comp T ih cx [g] scope (.dict [] 0) (fun cx' acc => emitDict ih cx' acc k v) ρ σ
  | .Compare l [op] [r] _ => match behindInMarks op r, ih.e cx l ρ σ with
    | false, some (a, σ1) => match ih.e cx r ρ σ1 with
      | some (b, σ2) => match cmp op a b σ2 with
        | some c => some (.bool c, σ2)
        | .none => .none
      | .none => .none
    | _, _ => .none
  | .Call (.Name f _) args [] _ => if cx.nm.lookup f = some .globalImplicit ∧ (f == Str.ofString "__debug__") = false ∧ args.length < 20 then (match T.isFn f with
      | true => match evalL ih cx args ρ σ with
        | some (vs, σ1) => T.call f vs σ1
        | .none => .none
      | false => match biOf f, evalL ih cx args ρ σ with
        | some b, some (vs, σ1) => biCall b vs σ1
        | _, _ => .none) else .none
  | .Call (.Attribute o nm ap) args [] p => match o with
    | .Name x q => if args.length < 20 ∧ (ap.endLine == p.line) = true then (match ih.e cx (.Name x q) ρ σ with
      | some (a, σ1) => match methPre a nm σ1, evalL ih cx args ρ σ1 with
        | true, some (vs, σ2) => methodV a nm vs σ2
        | _, _ => .none
      | .none => .none) else .none
    | _ => .none
  | .Subscript v (.Slice .none (some u) .none _) _ => match v with
    | .Name x q => match ih.e cx (.Name x q) ρ σ, u with
      | some (.ilist ns, σ1), .Constant (.int k) _ _ => if 0 ≤ k ∧ k < lim then some (.obj σ1.length, σ1 ++ [.list ((ns.take k.toNat).map V.int)]) else .none
      | _, _ => .none
    | _ => .none
  | .Subscript _ (.Slice ..) _ => .none
  | .Subscript v s _ => match ih.e cx v ρ σ with
    | some (a, σ1) => match ih.e cx s ρ σ1 with
      | some (i, σ2) => match getitem a i σ2 with
        | some r => some (r, σ2)
        | .none => .none
      | .none => .none
    | .none => .none
  | _ => .none
noncomputable def plainTest : Expr → Bool
  | .Call .. => true
  | _ => false
noncomputable def stepT (_ : Tb) (ih : Ev) (cx : Cx) (e : Expr) (ρ : Rho) (σ : Store) : Option (Bool × Store) :=
  match e with
  | .UnaryOp .Not x _ => match ih.t cx x ρ σ with
    | some (b, σ1) => some (!b, σ1)
    | .none => .none
  | .BoolOp op vs _ => boolT ih cx op vs ρ σ
  | .Compare l [op] [r] _ => match behindInMarks op r, ih.e cx l ρ σ with
    | false, some (a, σ1) => match ih.e cx r ρ σ1 with
      | some (b, σ2) => match cmp op a b σ2 with
        | some c => some (c, σ2)
        | .none => .none
      | .none => .none
    | _, _ => .none
  | .Call f args ks p => match ih.e cx (.Call f args ks p) ρ σ with
    | some (.bool b, σ1) => some (b, σ1)
    | _ => .none
  | _ => .none
noncomputable def whileL (ih : Ev) (cx : Cx) (test : Expr) (body : List Stmt) : Nat → Rho → Store → Option (Fl × Rho × Store)
  | 0, _, _ => .none
  | k + 1, ρ, σ => match ih.t cx test ρ σ with
    | some (true, σ1) => match ih.s cx body ρ σ1 with
      | some (.ret v, ρ2, σ2) => some (.ret v, ρ2, σ2)
      | some (.next, ρ2, σ2) => whileL ih cx test body k ρ2 σ2
      | some (.cont, ρ2, σ2) => whileL ih cx test body k ρ2 σ2
      | .none => .none
    | some (false, σ1) => some (.next, ρ, σ1)
    | .none => .none
noncomputable def forL (ih : Ev) (cx : Cx) (target : Expr) (body : List Stmt) : Nat → It → Rho → Store → Option (Fl × Rho × Store)
  | 0, _, _, _ => .none
  | k + 1, it, ρ, σ => match tgtOk target it, nextI it σ with
    | false, _ => .none
    | true, .none => .none
    | true, some .none => some (.next, ρ, σ)
    | true, some (some (v, it')) => match assignT target v ρ with
      | .none => .none
      | some ρ1 => match ih.s cx body ρ1 σ with
        | some (.ret v, ρ2, σ2) => some (.ret v, ρ2, σ2)
        | some (.next, ρ2, σ2) => forL ih cx target body k it' ρ2 σ2
        | some (.cont, ρ2, σ2) => forL ih cx target body k it' ρ2 σ2
        | .none => .none
noncomputable def isComp : Expr → Bool
  | .ListComp .. => true
  | .SetComp .. => true
  | .DictComp .. => true
  | _ => false
/-- a comprehension that is bound to a plain local name of its own line -/
noncomputable def compBound (cx : Cx) (x : Str) (xp : Pos) : Expr → Bool
  | .ListComp _ gens scope p => cx.nm.lookup x == some .local && xp.line == p.line && !(scope.names.any fun (n, k) => n == x && (k == .local || k == .cell)) && gens.length == 1
  | _ => false
noncomputable def tupleOk : Expr → Bool
  | .Tuple vs _ _ => !(vs.all (constantsAlone 8)) || vs.all (foldedForSure 8)
  | e => !isComp e
noncomputable def simpleTargets : List Expr → Bool
  | [] => true
  | .Name .. :: r => simpleTargets r
  | _ => false
noncomputable def namesOfT : List Expr → List Str
  | [] => []
  | .Name x _ :: r => x :: namesOfT r
  | _ :: r => namesOfT r
noncomputable def stmt (T : Tb) (ih : Ev) (cx : Cx) (st : Stmt) (ρ : Rho) (σ : Store) : Option (Fl × Rho × Store) :=
  match st with
  | .Assign [.Name x p] e _ => if isComp e = false ∨ compBound cx x p e = true then (match ih.e cx e ρ σ with
      | some (v, σ1) => match rset ρ x v with
        | some ρ1 => some (.next, ρ1, σ1)
        | .none => .none
      | .none => .none) else .none
  | .Assign [.Tuple ts _ _] e _ => if tupleOk e = true ∧ simpleTargets ts = true ∧ (namesOfT ts).Nodup then (match ih.e cx e ρ σ with
      | some (.tup vs, σ1) => match setNames ts vs ρ with
        | some ρ1 => some (.next, ρ1, σ1)
        | .none => .none
      | _ => .none) else .none
  | .Assign [.Subscript o i _] e _ => if isComp e = false then (match ih.e cx e ρ σ with
      | some (v, σ1) => match ih.e cx o ρ σ1 with
        | some (a, σ2) => match ih.e cx i ρ σ2 with
          | some (j, σ3) => match setitem a j v σ3 with
            | some σ4 => some (.next, ρ, σ4)
            | .none => .none
          | .none => .none
        | .none => .none
      | .none => .none) else .none
  | .AugAssign (.Name x _) .Add e _ => match name T cx x ρ with
    | some (.int a) => match ih.e cx e ρ σ with
      | some (.int b, σ1) => match rset ρ x (.int (a + b)) with
        | some ρ1 => some (.next, ρ1, σ1)
        | .none => .none
      | _ => .none
    | _ => .none
  | .Expr (.Call f args ks p) _ => match ih.e cx (.Call f args ks p) ρ σ with
    | some (_, σ1) => some (.next, ρ, σ1)
    | .none => .none
  | .If test body orelse _ => match ih.t cx test ρ σ with
    | some (true, σ1) => ih.s cx body ρ σ1
    | some (false, σ1) => ih.s cx orelse ρ σ1
    | .none => .none
  | .While test body [] _ => whileL ih cx test body bud ρ σ
  | .For target iter body [] _ => match iterE T ih cx iter ρ σ with
    | some (it, σ1) => forL ih cx target body bud it ρ σ1
    | .none => .none
  | .Return (some e) _ => match ih.e cx e ρ σ with
    | some (v, σ1) => some (.ret v, ρ, σ1)
    | .none => .none
  | .Continue _ => some (.cont, ρ, σ)
  | _ => .none
noncomputable def stmts (T : Tb) (ih : Ev) (cx : Cx) : List Stmt → Rho → Store → Option (Fl × Rho × Store)
  | [], ρ, σ => some (.next, ρ, σ)
  | st :: r, ρ, σ => match stmt T ih cx st ρ σ with
    | some (.next, ρ1, σ1) => stmts T ih cx r ρ1 σ1
    | some (.cont, ρ1, σ1) => some (.cont, ρ1, σ1)
    | some (.ret v, ρ1, σ1) => some (.ret v, ρ1, σ1)
    | .none => .none
noncomputable def ev (T : Tb) : Nat → Ev
  | 0 => ⟨fun _ _ _ _ => .none, fun _ _ _ _ => .none, fun _ _ _ _ => .none⟩
  | d + 1 => ⟨stepE T (ev T d), stepT T (ev T d), stmts T (ev T d)⟩
noncomputable def bindP : List Str → List V → Rho → Option Rho
  | [], [], ρ => some ρ
  | x :: xs, v :: vs, ρ => match rset ρ x v with
    | some ρ1 => bindP xs vs ρ1
    | .none => .none
  | _, _, _ => .none
noncomputable def dFuel : Nat := 40
structure Pg where
  tbl : List DefRec
  gl : Str → Option V
noncomputable def Pg.find (P : Pg) (f : Str) : Option DefRec := P.tbl.find? fun d => d.name == f
noncomputable def plainParams (p : Arguments) : Bool := p.posonlyargs.isEmpty && p.vararg.isNone && p.kwonlyargs.isEmpty && p.kwarg.isNone && p.defaults.isEmpty && p.kw_defaults.isEmpty
noncomputable def okDef (d : DefRec) : Bool := plainParams d.params && !d.scope.isGenerator && !d.scope.isCoroutine && d.scope.kind == .function && (d.params.args.map (·.arg)).all (fun x => d.scope.names.lookup x == some .local || d.scope.names.lookup x == some .cell) &&
  d.scope.names.all (fun x => d.scope.names.lookup x.1 == some x.2) && noDup d.scope.names && noDup (d.params.args.map fun a => (a.arg, NameKind.local))
noncomputable def callF (P : Pg) : Nat → Str → List V → Store → Option (V × Store)
  | 0 => fun _ _ _ => .none
  | n + 1 => fun f vs σ => match P.find f with
    | .none => .none
    | some d => if okDef d = true then (match bindP (d.params.args.map (·.arg)) vs (ownNames d.scope.names) with
      | .none => .none
      | some ρ => match (ev ⟨fun g => (P.find g).isSome, P.gl, callF P n⟩ dFuel).s ⟨d.scope.names, []⟩ d.body ρ σ with
        | some (.ret v, _, σ1) => some (v, σ1)
        | some (.next, _, σ1) => some (.none, σ1)
        | _ => .none) else .none
end Mine
namespace Mine
open PySem PySem.Calls PyProof.Rows
/-- from s to s': the heap and the tokens alone; what lies outside X is kept -/
structure Stp (X : Addr → Prop) (s s' : Shared) : Prop where
  same : ∃ h' tk, s' = { s with heap := h', toks := tk }
  keep : ∀ b o, s.heap.get? b = some o → ¬ X b → s'.heap.get? b = some o
  live : ∀ b o, s.heap.get? b = some o → ∃ o', s'.heap.get? b = some o'
theorem Stp.refl (X : Addr → Prop) (s : Shared) : Stp X s s := ⟨⟨_, _, rfl⟩, fun _ _ e _ => e, fun _ o e => ⟨o, e⟩⟩
theorem Stp.trans {X Y Z : Addr → Prop} {s s' s'' : Shared} (a : Stp X s s') (b : Stp Y s' s'') (hx : ∀ b, X b → Z b ∨ s.heap.get? b = none) (hy : ∀ b, Y b → Z b ∨ s.heap.get? b = none) : Stp Z s s'' := by
  refine ⟨?_, fun x o e hz => ?_, fun x o e => ?_⟩
  · obtain ⟨h1, t1, rfl⟩ := a.same
    obtain ⟨h2, t2, rfl⟩ := b.same
    exact ⟨h2, t2, rfl⟩
  · have hX : ¬ X x := fun q => (hx x q).elim hz fun r => by rw [e] at r; cases r
    have hY : ¬ Y x := fun q => (hy x q).elim hz fun r => by rw [e] at r; cases r
    exact b.keep x o (a.keep x o e hX) hY
  · obtain ⟨o1, e1⟩ := a.live x o e
    exact b.live x o1 e1
theorem Stp.mono {X Z : Addr → Prop} {s s' : Shared} (a : Stp X s s') (hx : ∀ b, X b → Z b ∨ s.heap.get? b = none) : Stp Z s s' := a.trans (Stp.refl X s') hx hx
theorem Stp.fresh {X : Addr → Prop} {s s' : Shared} (a : Stp X s s') {b : Addr} (h : s'.heap.get? b = none) : s.heap.get? b = none := by
  cases q : s.heap.get? b with
  | none => rfl
  | some o => obtain ⟨o', e⟩ := a.live b o q; rw [h] at e; cases e
theorem get_size (h : Heap) : h.get? h.objs.size = none := by
  cases q : h.get? h.objs.size with
  | none => rfl
  | some o => exact absurd (Heap.lt_size q) (Nat.lt_irrefl _)
noncomputable abbrev noX : Addr → Prop := fun _ => False
theorem Stp.toks (X : Addr → Prop) (s : Shared) (t : Nat) : Stp X s { s with toks := t } := ⟨⟨_, _, rfl⟩, fun _ _ e _ => e, fun _ o e => ⟨o, e⟩⟩
theorem Stp.kept {X : Addr → Prop} {s : Shared} {h' : Heap} (t : Nat) (hk : ∀ b o, s.heap.get? b = some o → h'.get? b = some o) : Stp X s { s with heap := h', toks := t } :=
  ⟨⟨_, _, rfl⟩, fun b o e _ => hk b o e, fun b o e => ⟨o, hk b o e⟩⟩
theorem Stp.push (X : Addr → Prop) (s : Shared) (o : Obj) (t : Nat) : Stp X s { s with heap := s.heap.push o, toks := t } := Stp.kept t fun _ _ e => Heap.get?_push_of_some _ e
theorem Stp.sameBut {X : Addr → Prop} {s : Shared} {a : Addr} {h' : Heap} (t : Nat) (hs : Heap.SameBut a s.heap h') (ha : ∃ o, h'.get? a = some o) (hX : X a) : Stp X s { s with heap := h', toks := t } :=
  ⟨⟨_, _, rfl⟩, fun b o e n => (hs.2 b fun q => n (q ▸ hX)).trans e, fun b o e => by
    by_cases q : b = a
    · exact q ▸ ha
    · exact ⟨o, (hs.2 b q).trans e⟩⟩
/-- the machine's values bear mine -/
inductive Rep (h₀ h : Heap) (μ : List Addr) : Value → V → Prop
  | none : Rep h₀ h μ .none .none
  | bool (b : Bool) : Rep h₀ h μ (.bool b) (.bool b)
  | int (i : Int) (t : Tok) : Rep h₀ h μ (.int i t) (.int i)
  | str (x : Str) (t : Tok) : Rep h₀ h μ (.str x t) (.str x)
  | tup {a : Addr} {vs : List Value} {Vs : List V} : h.IsTuple a vs.toArray → vs.length = Vs.length → (∀ (i : Nat) (v : Value) (W : V), vs[i]? = some v → Vs[i]? = some W → Rep h₀ h μ v W) → Rep h₀ h μ (.ref a) (.tup Vs)
  | obj {a : Addr} {n : Nat} : μ[n]? = some a → Rep h₀ h μ (.ref a) (.obj n)
  | ilist {a : Addr} {vs : List Value} {ns : List Int} : h₀.IsList a vs.toArray → IntsAre vs ns → vs.length ≤ sizeLine → Rep h₀ h μ (.ref a) (.ilist ns)
/-- a row of values -/
structure RepL (h₀ h : Heap) (μ : List Addr) (vs : List Value) (Vs : List V) : Prop where
  len : vs.length = Vs.length
  at' : ∀ (i : Nat) (v : Value) (W : V), vs[i]? = some v → Vs[i]? = some W → Rep h₀ h μ v W
theorem RepL.nil {h₀ h : Heap} {μ : List Addr} : RepL h₀ h μ [] [] := ⟨rfl, fun _ _ _ e => by simp at e⟩
theorem RepL.cons {h₀ h : Heap} {μ : List Addr} {v : Value} {W : V} {vs : List Value} {Vs : List V} (a : Rep h₀ h μ v W) (b : RepL h₀ h μ vs Vs) : RepL h₀ h μ (v :: vs) (W :: Vs) :=
  ⟨by simp [b.len], fun i v' W' e1 e2 => by
    cases i with
    | zero => simp at e1 e2; subst e1; subst e2; exact a
    | succ i => exact b.at' i v' W' (by simpa using e1) (by simpa using e2)⟩
theorem RepL.head {h₀ h : Heap} {μ : List Addr} {v : Value} {W : V} {vs : List Value} {Vs : List V} (b : RepL h₀ h μ (v :: vs) (W :: Vs)) : Rep h₀ h μ v W := b.at' 0 v W rfl rfl
theorem RepL.tail {h₀ h : Heap} {μ : List Addr} {v : Value} {W : V} {vs : List Value} {Vs : List V} (b : RepL h₀ h μ (v :: vs) (W :: Vs)) : RepL h₀ h μ vs Vs :=
  ⟨by have := b.len; simpa using this, fun i v' W' e1 e2 => b.at' (i + 1) v' W' (by simpa using e1) (by simpa using e2)⟩
theorem RepL.append {h₀ h : Heap} {μ : List Addr} {vs ws : List Value} {Vs Ws : List V} (a : RepL h₀ h μ vs Vs) (b : RepL h₀ h μ ws Ws) : RepL h₀ h μ (vs ++ ws) (Vs ++ Ws) := by
  refine ⟨by simp [a.len, b.len], fun i v W e1 e2 => ?_⟩
  by_cases q : i < vs.length
  · rw [List.getElem?_append_left q] at e1
    rw [List.getElem?_append_left (a.len ▸ q)] at e2
    exact a.at' i v W e1 e2
  · rw [List.getElem?_append_right (by exact Nat.le_of_not_lt q)] at e1
    rw [List.getElem?_append_right (by have := a.len; exact ar22 q this)] at e2
    exact b.at' _ v W e1 (a.len ▸ e2)
theorem RepL.exists {h₀ h : Heap} {μ : List Addr} {vs : List Value} {Vs : List V} (a : RepL h₀ h μ vs Vs) {i : Nat} {W : V} (e : Vs[i]? = some W) : ∃ v, vs[i]? = some v ∧ Rep h₀ h μ v W := by
  have hi : i < vs.length := by rw [a.len]; exact (List.getElem?_eq_some_iff.mp e).1
  exact ⟨vs[i], List.getElem?_eq_getElem hi, a.at' i _ W (List.getElem?_eq_getElem hi) e⟩
theorem Rep.tup_inv {h₀ h : Heap} {μ : List Addr} {v : Value} {Vs : List V} (r : Rep h₀ h μ v (.tup Vs)) : ∃ a vs, v = .ref a ∧ h.IsTuple a vs.toArray ∧ RepL h₀ h μ vs Vs := by
  cases r with
  | tup a b c => exact ⟨_, _, rfl, a, b, c⟩
theorem Rep.tup' {h₀ h : Heap} {μ : List Addr} {a : Addr} {vs : List Value} {Vs : List V} (t : h.IsTuple a vs.toArray) (r : RepL h₀ h μ vs Vs) : Rep h₀ h μ (.ref a) (.tup Vs) := .tup t r.len r.at'
/-- growth: tuples kept, the store's addresses grown at the end -/
theorem Rep.grow {h₀ h h' : Heap} {μ ν : List Addr} (ht : ∀ a items, h.IsTuple a items → h'.IsTuple a items) {v : Value} {W : V} (r : Rep h₀ h μ v W) : Rep h₀ h' (μ ++ ν) v W := by
  induction r with
  | none => exact .none
  | bool b => exact .bool b
  | int i t => exact .int i t
  | str x t => exact .str x t
  | tup a b _ ih => exact .tup (ht _ _ a) b ih
  | obj e => exact .obj (by rw [List.getElem?_append_left (List.getElem?_eq_some_iff.mp e).1]; exact e)
  | ilist a b c => exact .ilist a b c
theorem RepL.grow {h₀ h h' : Heap} {μ ν : List Addr} (ht : ∀ a items, h.IsTuple a items → h'.IsTuple a items) {vs : List Value} {Vs : List V} (r : RepL h₀ h μ vs Vs) : RepL h₀ h' (μ ++ ν) vs Vs :=
  ⟨r.len, fun i v W e1 e2 => (r.at' i v W e1 e2).grow ht⟩
section
variable (prog : Program) (w : World)
noncomputable abbrev tk : HeapKind prog w (List Int) := tupleKind (intKind prog w)
/-- a dict that lies at d, its keys rows of ints, with its epoch -/
noncomputable def DictE (h : Heap) (d : Addr) (xs : List (List Int × Addr × Value)) (ep : Nat) : Prop :=
  ∃ o es, h.get? d = some o ∧ o.ExactDict ∧ o.data = .dict es ep ∧ es.toList = xs.map (entryOfKey (tk prog w)) ∧ (∀ x ∈ xs, (tk prog w).is h x.1 x.2.1) ∧ (xs.map (·.1)).Nodup
/-- the machine's entries bear mine -/
structure Ents (h₀ h : Heap) (μ : List Addr) (xs : List (List Int × Addr × Value)) (es : List (List Int × V)) : Prop where
  keys : xs.map (·.1) = es.map (·.1)
  vals : ∀ (i : Nat) (x : List Int × Addr × Value) (e : List Int × V), xs[i]? = some x → es[i]? = some e → Rep h₀ h μ x.2.2 e.2
noncomputable def CellAt (h₀ h : Heap) (μ : List Addr) (a : Addr) : Cell → Prop
  | .dict es ep => ∃ xs, DictE prog w h a xs ep ∧ Ents h₀ h μ xs es
  | .list Vs => ∃ vs, h.PlainList a vs.toArray ∧ RepL h₀ h μ vs Vs
structure Stt (h₀ : Heap) (μ : List Addr) (σ : Store) (s : Shared) : Prop where
  base : ∀ b o, h₀.get? b = some o → s.heap.get? b = some o
  out : ∀ a ∈ μ, h₀.get? a = none
  nodup : μ.Nodup
  len : μ.length = σ.length
  cell : ∀ (n : Nat) (c : Cell), σ[n]? = some c → ∃ a, μ[n]? = some a ∧ CellAt prog w h₀ s.heap μ a c
end
variable {prog : Program} {w : World}
theorem DictE.ofH {h : Heap} {d : Addr} {xs : List (List Int × Addr × Value)} {ep : Nat} (x : DictE prog w h d xs ep) : h.DictOfH (tk prog w) d xs := let ⟨o, es, a, b, c⟩ := x; ⟨o, es, ep, a, b, c⟩
/-- what lies at an address of the store is no tuple, no record, no cell -/
theorem CellAt.shape {h₀ h : Heap} {μ : List Addr} {a : Addr} {c : Cell} (x : CellAt prog w h₀ h μ a c) : ∃ o, h.get? a = some o ∧ ((o.cls = .type "dict" ∧ ∃ es ep, o.data = .dict es ep) ∨ (o.cls = .type "list" ∧ ∃ vs n, o.data = .seq vs n)) := by
  cases c with
  | dict es ep => obtain ⟨xs, ⟨o, es', h1, h2, h3, _⟩, _⟩ := x; exact ⟨o, h1, .inl ⟨h2.1, es', ep, h3⟩⟩
  | list Vs => obtain ⟨vs, ⟨n, h1⟩, _⟩ := x; exact ⟨_, h1, .inr ⟨rfl, _, n, rfl⟩⟩
theorem Stt.shape {h₀ : Heap} {μ : List Addr} {σ : Store} {s : Shared} (S : Stt prog w h₀ μ σ s) {a : Addr} (ha : a ∈ μ) : ∃ o, s.heap.get? a = some o ∧ ((o.cls = .type "dict" ∧ ∃ es ep, o.data = .dict es ep) ∨ (o.cls = .type "list" ∧ ∃ vs n, o.data = .seq vs n)) := by
  obtain ⟨n, hn⟩ := List.mem_iff_getElem?.mp ha
  have hl : n < σ.length := by rw [← S.len]; exact (List.getElem?_eq_some_iff.mp hn).1
  obtain ⟨a', e, x⟩ := S.cell n _ (List.getElem?_eq_getElem hl)
  rw [hn] at e; cases e
  exact x.shape
theorem Stt.notTup {h₀ : Heap} {μ : List Addr} {σ : Store} {s : Shared} (S : Stt prog w h₀ μ σ s) {a : Addr} {items : Array Value} (t : s.heap.IsTuple a items) : a ∉ μ := fun ha => by
  obtain ⟨o, h1, h2⟩ := S.shape ha
  obtain ⟨o', g1, g2, _⟩ := t
  rw [h1] at g1; cases g1
  rcases h2 with ⟨q, _⟩ | ⟨q, _⟩ <;> rw [q] at g2 <;> exact absurd g2 (by decide)
theorem Stt.notFields {h₀ : Heap} {μ : List Addr} {σ : Store} {s : Shared} (S : Stt prog w h₀ μ σ s) {a : Addr} {o : Obj} {vs : Array Value} (g1 : s.heap.get? a = some o) (g2 : o.data = .fields vs) : a ∉ μ := fun ha => by
  obtain ⟨o', h1, h2⟩ := S.shape ha
  rw [h1] at g1; cases g1
  rcases h2 with ⟨_, es, ep, q⟩ | ⟨_, es, n, q⟩ <;> rw [q] at g2 <;> cases g2
/-- growth of the whole: what the store and F do not own is kept -/
structure Evo (F : Addr → Prop) (μ : List Addr) (s : Shared) (μ' : List Addr) (s' : Shared) : Prop where
  stp : Stp (fun b => b ∈ μ ∨ F b) s s'
  grow : ∃ ν, μ' = μ ++ ν ∧ ∀ a ∈ ν, s.heap.get? a = none
theorem Evo.refl (F : Addr → Prop) (μ : List Addr) (s : Shared) : Evo F μ s μ s := ⟨.refl _ _, [], by simp, by simp⟩
theorem Evo.ofStp {F : Addr → Prop} {μ : List Addr} {s s' : Shared} (a : Stp (fun b => b ∈ μ ∨ F b) s s') : Evo F μ s μ s' := ⟨a, [], by simp, by simp⟩
theorem Evo.ofNo {F : Addr → Prop} {μ : List Addr} {s s' : Shared} (a : Stp noX s s') : Evo F μ s μ s' := .ofStp (a.mono fun _ q => q.elim)
theorem Evo.trans {F G K : Addr → Prop} {μ μ1 μ2 : List Addr} {s s1 s2 : Shared} (a : Evo F μ s μ1 s1) (b : Evo G μ1 s1 μ2 s2) (hf : ∀ x, F x → K x ∨ s.heap.get? x = none) (hg : ∀ x, G x → K x ∨ s.heap.get? x = none) : Evo K μ s μ2 s2 := by
  obtain ⟨a1, ν1, rfl, n1⟩ := a
  obtain ⟨b1, ν2, rfl, n2⟩ := b
  refine ⟨a1.trans b1 (fun x q => ?_) (fun x q => ?_), ν1 ++ ν2, by simp, fun x q => ?_⟩
  · rcases q with q | q
    · exact .inl (.inl q)
    · exact (hf x q).imp .inr id
  · rcases q with q | q
    · rcases List.mem_append.mp q with q | q
      · exact .inl (.inl q)
      · exact .inr (n1 x q)
    · exact (hg x q).imp .inr id
  · rcases List.mem_append.mp q with q | q
    · exact n1 x q
    · exact a1.fresh (n2 x q)
theorem Evo.tr {F : Addr → Prop} {μ μ1 μ2 : List Addr} {s s1 s2 : Shared} (a : Evo F μ s μ1 s1) (b : Evo F μ1 s1 μ2 s2) : Evo F μ s μ2 s2 := a.trans b (fun _ => .inl) fun _ => .inl
theorem Evo.weak {F K : Addr → Prop} {μ μ' : List Addr} {s s' : Shared} (a : Evo F μ s μ' s') (hf : ∀ x, F x → K x ∨ s.heap.get? x = none) : Evo K μ s μ' s' := a.trans (Evo.refl F μ' s') hf hf
theorem Evo.up {K : Addr → Prop} {μ μ' : List Addr} {s s' : Shared} (a : Evo noX μ s μ' s') : Evo K μ s μ' s' := a.weak fun _ q => q.elim
theorem Evo.keep {F : Addr → Prop} {μ μ' : List Addr} {s s' : Shared} (a : Evo F μ s μ' s') {b : Addr} {o : Obj} (e : s.heap.get? b = some o) (h1 : b ∉ μ) (h2 : ¬ F b) : s'.heap.get? b = some o := a.stp.keep b o e fun q => q.elim h1 h2
theorem Evo.notin {F : Addr → Prop} {μ μ' : List Addr} {s s' : Shared} (a : Evo F μ s μ' s') {b : Addr} {o : Obj} (e : s.heap.get? b = some o) (h1 : b ∉ μ) : b ∉ μ' := by
  obtain ⟨_, ν, rfl, n⟩ := a
  intro q
  rcases List.mem_append.mp q with q | q
  · exact h1 q
  · rw [n b q] at e; cases e
theorem Evo.tup {F : Addr → Prop} {h₀ : Heap} {μ μ' : List Addr} {σ : Store} {s s' : Shared} (S : Stt prog w h₀ μ σ s) (a : Evo F μ s μ' s') (hF : ∀ b items, F b → ¬ s.heap.IsTuple b items) : ∀ b items, s.heap.IsTuple b items → s'.heap.IsTuple b items := by
  intro b items t
  obtain ⟨o, h1, r⟩ := id t
  exact ⟨o, a.keep h1 (S.notTup t) (fun q => hF b items q t), r⟩
theorem Evo.rep {F : Addr → Prop} {h₀ : Heap} {μ μ' : List Addr} {σ : Store} {s s' : Shared} (S : Stt prog w h₀ μ σ s) (a : Evo F μ s μ' s') (hF : ∀ b items, F b → ¬ s.heap.IsTuple b items) {v : Value} {W : V} (r : Rep h₀ s.heap μ v W) : Rep h₀ s'.heap μ' v W := by
  have ht := a.tup S hF
  obtain ⟨_, ν, rfl, _⟩ := a
  exact r.grow ht
theorem Evo.repL {F : Addr → Prop} {h₀ : Heap} {μ μ' : List Addr} {σ : Store} {s s' : Shared} (S : Stt prog w h₀ μ σ s) (a : Evo F μ s μ' s') (hF : ∀ b items, F b → ¬ s.heap.IsTuple b items) {vs : List Value} {Vs : List V} (r : RepL h₀ s.heap μ vs Vs) : RepL h₀ s'.heap μ' vs Vs :=
  ⟨r.len, fun i v W e1 e2 => a.rep S hF (r.at' i v W e1 e2)⟩
/-- an expression's step keeps values -/
theorem Evo.rep0 {h₀ : Heap} {μ μ' : List Addr} {σ : Store} {s s' : Shared} (S : Stt prog w h₀ μ σ s) (a : Evo noX μ s μ' s') {v : Value} {W : V} (r : Rep h₀ s.heap μ v W) : Rep h₀ s'.heap μ' v W := a.rep S (fun _ _ q => q.elim) r
theorem Evo.repL0 {h₀ : Heap} {μ μ' : List Addr} {σ : Store} {s s' : Shared} (S : Stt prog w h₀ μ σ s) (a : Evo noX μ s μ' s') {vs : List Value} {Vs : List V} (r : RepL h₀ s.heap μ vs Vs) : RepL h₀ s'.heap μ' vs Vs := a.repL S (fun _ _ q => q.elim) r
theorem isKey_iff {h : Heap} {ks : List Int} {a : Addr} : (tk prog w).is h ks a ↔ ∃ vs : List Value, h.IsTuple a vs.toArray ∧ vs.length = ks.length ∧ ∀ (i : Nat) (k : Int), ks[i]? = some k → ∃ t, vs[i]? = some (Value.int k t) := by
  constructor
  · rintro ⟨o, items, n, h1, h2, h3, h4⟩
    have h4' : ItemsAre (intKind prog w) ks items.toList := h4
    refine ⟨items.toList, ⟨o, h1, h2, n, by rw [h3]⟩, h4'.length.symm, ?_⟩
    clear h1 h2 h3 h4
    generalize items.toList = vs at h4'
    induction h4' with
    | nil => intro i k e; simp at e
    | cons q _ ih =>
      intro i k e
      cases i with
      | zero =>
        simp at e; subst e
        obtain ⟨t, rfl⟩ := Value.isInt_shape q
        exact ⟨t, rfl⟩
      | succ i => simpa using ih i k (by simpa using e)
  · rintro ⟨vs, ⟨o, h1, h2, n, h3⟩, hl, h4⟩
    refine ⟨o, vs.toArray, n, h1, h2, h3, ?_⟩
    show ItemsAre (intKind prog w) ks vs
    clear h1 h2 h3
    induction ks generalizing vs with
    | nil =>
      have : vs = [] := List.eq_nil_of_length_eq_zero (by simpa using hl)
      subst this; exact .nil
    | cons k ks ih =>
      cases vs with
      | nil => simp at hl
      | cons v vs =>
        obtain ⟨t, e⟩ := h4 0 k rfl
        simp at e; subst e
        refine .cons (by show Value.isInt k (.int k t) = true; simp [Value.isInt]) (ih vs (by simpa using hl) fun i k e => ?_)
        simpa using h4 (i + 1) k (by simpa using e)
theorem intsOf_at : ∀ {Vs : List V} {ks : List Int}, intsOf Vs = some ks → Vs = ks.map V.int
  | [], _, h => by cases h; rfl
  | .int i :: r, ks, h => by
    unfold intsOf at h
    split at h
    · rename_i l e; cases h; rw [List.map_cons, intsOf_at e]
    · cases h
  | .none :: _, _, h => by cases h
  | .bool _ :: _, _, h => by cases h
  | .str _ :: _, _, h => by cases h
  | .tup _ :: _, _, h => by cases h
  | .obj _ :: _, _, h => by cases h
  | .ilist _ :: _, _, h => by cases h
theorem Rep.key {h₀ h : Heap} {μ : List Addr} {v : Value} {ks : List Int} (r : Rep h₀ h μ v (.tup (ks.map V.int))) : ∃ a, v = .ref a ∧ (tk prog w).is h ks a := by
  obtain ⟨a, vs, rfl, t, l⟩ := r.tup_inv
  refine ⟨a, rfl, isKey_iff.mpr ⟨vs, t, by simpa using l.len, fun i k e => ?_⟩⟩
  obtain ⟨v, e1, e2⟩ := l.exists (i := i) (W := .int k) (by simp [e])
  cases e2
  exact ⟨_, e1⟩
theorem Rep.ofKey {h₀ h : Heap} {μ : List Addr} {a : Addr} {ks : List Int} (r : (tk prog w).is h ks a) : Rep h₀ h μ (.ref a) (.tup (ks.map V.int)) := by
  obtain ⟨vs, t, hl, h4⟩ := isKey_iff.mp r
  refine .tup t (by simpa using hl) fun i v W e1 e2 => ?_
  simp only [List.getElem?_map, Option.map_eq_some_iff] at e2
  obtain ⟨k, e, rfl⟩ := e2
  obtain ⟨t, e3⟩ := h4 i k e
  rw [e3] at e1; cases e1
  exact .int k t
theorem isKey_tup {h h' : Heap} (ht : ∀ a items, h.IsTuple a items → h'.IsTuple a items) {ks : List Int} {a : Addr} (x : (tk prog w).is h ks a) : (tk prog w).is h' ks a := by
  obtain ⟨vs, t, r⟩ := isKey_iff.mp x
  exact isKey_iff.mpr ⟨vs, ht _ _ t, r⟩
theorem Ents.grow {h₀ h h' : Heap} {μ ν : List Addr} (ht : ∀ a items, h.IsTuple a items → h'.IsTuple a items) {xs : List (List Int × Addr × Value)} {es : List (List Int × V)} (r : Ents h₀ h μ xs es) : Ents h₀ h' (μ ++ ν) xs es :=
  ⟨r.keys, fun i x e e1 e2 => (r.vals i x e e1 e2).grow ht⟩
theorem CellAt.grow {h₀ h h' : Heap} {μ ν : List Addr} (ht : ∀ a items, h.IsTuple a items → h'.IsTuple a items) {a : Addr} {c : Cell} (x : CellAt prog w h₀ h μ a c) (ha : ∀ o, h.get? a = some o → h'.get? a = some o) : CellAt prog w h₀ h' (μ ++ ν) a c := by
  cases c with
  | dict es ep =>
    obtain ⟨xs, ⟨o, es', h1, h2, h3, h4, h5, h6⟩, r⟩ := x
    exact ⟨xs, ⟨o, es', ha _ h1, h2, h3, h4, fun y hy => isKey_tup ht (h5 y hy), h6⟩, r.grow ht⟩
  | list Vs =>
    obtain ⟨vs, ⟨n, h1⟩, r⟩ := x
    exact ⟨vs, ⟨n, ha _ h1⟩, r.grow ht⟩
section
variable {h₀ : Heap} {μ : List Addr} {σ : Store} {s : Shared}
theorem Stt.stp0 (S : Stt prog w h₀ μ σ s) {s' : Shared} (a : Stp noX s s') : Stt prog w h₀ μ σ s' := by
  have ht : ∀ b items, s.heap.IsTuple b items → s'.heap.IsTuple b items := fun b items ⟨o, h1, r⟩ => ⟨o, a.keep b o h1 id, r⟩
  refine ⟨fun b o e => a.keep b o (S.base b o e) id, S.out, S.nodup, S.len, fun n c e => ?_⟩
  obtain ⟨ad, e1, x⟩ := S.cell n c e
  refine ⟨ad, e1, ?_⟩
  have := x.grow (ν := []) ht fun o e => a.keep ad o e id
  rwa [List.append_nil] at this
/-- a step that touches neither the base nor the store -/
theorem Stt.stpF (S : Stt prog w h₀ μ σ s) {F : Addr → Prop} {s' : Shared} (a : Stp F s s') (h1 : ∀ b, F b → h₀.get? b = none) (h2 : ∀ b, F b → b ∉ μ) (h3 : ∀ b items, F b → ¬ s.heap.IsTuple b items) : Stt prog w h₀ μ σ s' := by
  have ht : ∀ b items, s.heap.IsTuple b items → s'.heap.IsTuple b items := fun b items t => by
    obtain ⟨o, g1, r⟩ := id t
    exact ⟨o, a.keep b o g1 fun q => h3 b items q t, r⟩
  refine ⟨fun b o e => a.keep b o (S.base b o e) (fun q => by rw [h1 b q] at e; cases e), S.out, S.nodup, S.len, fun n c e => ?_⟩
  obtain ⟨ad, e1, x⟩ := S.cell n c e
  refine ⟨ad, e1, ?_⟩
  have := x.grow (ν := []) ht fun o e => a.keep ad o e fun q => h2 ad q (List.mem_of_getElem? e1)
  rwa [List.append_nil] at this
theorem Stt.alloc (S : Stt prog w h₀ μ σ s) {o : Obj} {c : Cell} {t : Nat} (hc : CellAt prog w h₀ (s.heap.push o) (μ ++ [s.heap.objs.size]) s.heap.objs.size c) :
    Stt prog w h₀ (μ ++ [s.heap.objs.size]) (σ ++ [c]) { s with heap := s.heap.push o, toks := t } ∧ Evo noX μ s (μ ++ [s.heap.objs.size]) { s with heap := s.heap.push o, toks := t } := by
  have hn := get_size s.heap
  have S1 := S.stp0 (Stp.push noX s o t)
  have nb : h₀.get? s.heap.objs.size = none := by
    cases q : h₀.get? s.heap.objs.size with
    | none => rfl
    | some o' => rw [S.base _ _ q] at hn; cases hn
  have nμ : s.heap.objs.size ∉ μ := fun q => by
    obtain ⟨o', e, _⟩ := S.shape q
    rw [hn] at e; cases e
  refine ⟨⟨S1.base, fun a ha => ?_, ?_, by simp [S.len], fun n c' e => ?_⟩, ⟨Stp.push _ s o t, [s.heap.objs.size], rfl, fun a ha => ?_⟩⟩
  · rcases List.mem_append.mp ha with q | q
    · exact S.out a q
    · rw [List.mem_singleton.mp q]; exact nb
  · exact List.nodup_append.mpr ⟨S.nodup, by simp, fun a ha b hb => by rw [List.mem_singleton.mp hb]; exact fun q => nμ (q ▸ ha)⟩
  · by_cases q : n < σ.length
    · rw [List.getElem?_append_left q] at e
      obtain ⟨ad, e1, x⟩ := S1.cell n c' e
      refine ⟨ad, by rw [List.getElem?_append_left (by rw [S.len]; exact q)]; exact e1, ?_⟩
      exact x.grow (fun _ _ t => t) fun _ e => e
    · have hn' : n = σ.length := by
        have := (List.getElem?_eq_some_iff.mp e).1
        simp at this; exact Nat.eq_of_lt_succ_of_not_lt this q
      subst hn'
      rw [List.getElem?_append_right (Nat.le_refl _)] at e
      simp at e; subst e
      exact ⟨_, by rw [← S.len]; simp, hc⟩
  · rw [List.mem_singleton.mp ha]; exact hn
theorem Stt.upd (S : Stt prog w h₀ μ σ s) {n : Nat} {a : Addr} {h' : Heap} {c : Cell} {t : Nat} (hn : μ[n]? = some a) (hs : Heap.SameBut a s.heap h') (hc : CellAt prog w h₀ h' μ a c) :
    Stt prog w h₀ μ (σ.set n c) { s with heap := h', toks := t } ∧ Evo noX μ s μ { s with heap := h', toks := t } := by
  have ha := List.mem_of_getElem? hn
  obtain ⟨oc, hoc, _⟩ := hc.shape
  have ht : ∀ b items, s.heap.IsTuple b items → h'.IsTuple b items := fun b items t => by
    obtain ⟨o, g1, r⟩ := id t
    exact ⟨o, (hs.2 b fun q => S.notTup t (q ▸ ha)).trans g1, r⟩
  refine ⟨⟨fun b o e => (hs.2 b fun q => ?_).trans (S.base b o e), S.out, S.nodup, by simpa using S.len, fun m c' e => ?_⟩, .ofStp (Stp.sameBut t hs ⟨oc, hoc⟩ (.inl ha))⟩
  · rw [q, S.out a ha] at e; cases e
  · rw [List.getElem?_set] at e
    split at e
    · rename_i q
      subst q
      split at e
      · cases e; exact ⟨a, hn, hc⟩
      · cases e
    · rename_i q
      obtain ⟨ad, e1, x⟩ := S.cell m c' e
      refine ⟨ad, e1, ?_⟩
      have hne : ad ≠ a := fun r => q (by
        have l1 := (List.getElem?_eq_some_iff.mp hn).1
        exact (List.getElem?_inj l1 S.nodup).mp (hn.trans (r ▸ e1.symm)))
      have := x.grow (ν := []) ht fun o e => (hs.2 ad hne).trans e
      rwa [List.append_nil] at this
end
theorem no_some {α : Type} {a : α} {P : Prop} (h : (none : Option α) = some a) : P := by cases h
theorem obxR {β : Type} {o : Option Rho} {f : Rho → Option β} {r : β} {G : Prop} (h : (match o with | some a => f a | .none => .none) = some r) (k : ∀ a, o = some a → f a = some r → G) : G := by
  cases o with
  | none => cases h
  | some a => exact k a rfl h
theorem obxS {β : Type} {o : Option Store} {f : Store → Option β} {r : β} {G : Prop} (h : (match o with | some a => f a | .none => .none) = some r) (k : ∀ a, o = some a → f a = some r → G) : G := by
  cases o with
  | none => cases h
  | some a => exact k a rfl h
theorem obxV {β : Type} {o : Option V} {f : V → Option β} {r : β} {G : Prop} (h : (match o with | some a => f a | .none => .none) = some r) (k : ∀ a, o = some a → f a = some r → G) : G := by
  cases o with
  | none => cases h
  | some a => exact k a rfl h
theorem obxB {β : Type} {o : Option Bool} {f : Bool → Option β} {r : β} {G : Prop} (h : (match o with | some a => f a | .none => .none) = some r) (k : ∀ a, o = some a → f a = some r → G) : G := by
  cases o with
  | none => cases h
  | some a => exact k a rfl h
theorem obxI {β : Type} {o : Option It} {f : It → Option β} {r : β} {G : Prop} (h : (match o with | some a => f a | .none => .none) = some r) (k : ∀ a, o = some a → f a = some r → G) : G := by
  cases o with
  | none => cases h
  | some a => exact k a rfl h
theorem obxL {β : Type} {o : Option (List Int)} {f : (List Int) → Option β} {r : β} {G : Prop} (h : (match o with | some a => f a | .none => .none) = some r) (k : ∀ a, o = some a → f a = some r → G) : G := by
  cases o with
  | none => cases h
  | some a => exact k a rfl h
theorem obxW {β : Type} {o : Option (List V)} {f : (List V) → Option β} {r : β} {G : Prop} (h : (match o with | some a => f a | .none => .none) = some r) (k : ∀ a, o = some a → f a = some r → G) : G := by
  cases o with
  | none => cases h
  | some a => exact k a rfl h
theorem obxP {β : Type} {o : Option (List (Str × V))} {f : (List (Str × V)) → Option β} {r : β} {G : Prop} (h : (match o with | some a => f a | .none => .none) = some r) (k : ∀ a, o = some a → f a = some r → G) : G := by
  cases o with
  | none => cases h
  | some a => exact k a rfl h
theorem obyVS {β : Type} {o : Option (V × Store)} {f : V → Store → Option β} {r : β} {G : Prop} (h : (match o with | some (a, b) => f a b | .none => .none) = some r) (k : ∀ a b, o = some (a, b) → f a b = some r → G) : G := by
  cases o with
  | none => cases h
  | some a => exact k a.1 a.2 rfl h
theorem obyWS {β : Type} {o : Option ((List V) × Store)} {f : (List V) → Store → Option β} {r : β} {G : Prop} (h : (match o with | some (a, b) => f a b | .none => .none) = some r) (k : ∀ a b, o = some (a, b) → f a b = some r → G) : G := by
  cases o with
  | none => cases h
  | some a => exact k a.1 a.2 rfl h
theorem obyIS {β : Type} {o : Option (It × Store)} {f : It → Store → Option β} {r : β} {G : Prop} (h : (match o with | some (a, b) => f a b | .none => .none) = some r) (k : ∀ a b, o = some (a, b) → f a b = some r → G) : G := by
  cases o with
  | none => cases h
  | some a => exact k a.1 a.2 rfl h
theorem obyRS {β : Type} {o : Option (Rho × Store)} {f : Rho → Store → Option β} {r : β} {G : Prop} (h : (match o with | some (a, b) => f a b | .none => .none) = some r) (k : ∀ a b, o = some (a, b) → f a b = some r → G) : G := by
  cases o with
  | none => cases h
  | some a => exact k a.1 a.2 rfl h
theorem obyBS {β : Type} {o : Option (Bool × Store)} {f : Bool → Store → Option β} {r : β} {G : Prop} (h : (match o with | some (a, b) => f a b | .none => .none) = some r) (k : ∀ a b, o = some (a, b) → f a b = some r → G) : G := by
  cases o with
  | none => cases h
  | some a => exact k a.1 a.2 rfl h
theorem obI {c : Prop} [Decidable c] {β : Type} {t : Option β} {r : β} {G : Prop} (h : (if c then t else none) = some r) (k : c → t = some r → G) : G := by
  by_cases q : c
  · rw [if_pos q] at h; exact k q h
  · rw [if_neg q] at h; cases h
end Mine
namespace Mine
open PySem PySem.Calls PyProof.Rows
variable {prog : Program} {w : World} {A : Around} {E : Value → Shared → Prop} {s : Shared} {d a : Addr} {xs : List (List Int × Addr × Value)} {ep : Nat} {k : List Int}
theorem DictE.typeIs (x : DictE prog w s.heap d xs ep) : s.TypeIs (.ref d) "dict" := x.ofH.typeIs
theorem DictE.grow {h h' : Heap} (x : DictE prog w h d xs ep) (ht : ∀ a items, h.IsTuple a items → h'.IsTuple a items) (ha : ∀ o, h.get? d = some o → h'.get? d = some o) : DictE prog w h' d xs ep :=
  let ⟨o, es, h1, h2, h3, h4, h5, h6⟩ := x
  ⟨o, es, ha _ h1, h2, h3, h4, fun y hy => isKey_tup ht (h5 y hy), h6⟩
theorem key_same {h h' : Heap} {o : Obj} {es : Array DictEntry} {e : Nat} (ho : h.get? d = some o) (hd : o.data = .dict es e) (hs : Heap.SameBut d h h') {ks : List Int} {b : Addr} (x : (tk prog w).is h ks b) : (tk prog w).is h' ks b :=
  (tk prog w).keeps x ho hd hs
theorem dictSet_E {v : Value} {Q : Unit → Shared → Prop} (hu : A.units < cLine) (hk : (tk prog w).is s.heap k a) (hm : DictE prog w s.heap d xs ep) (hsz : xs.length ≤ sizeLine)
    (hQ : ∀ h' t, DictE prog w h' d (storedH xs k a v) (match atKey xs k with | some _ => ep | none => ep + 1) → Heap.SameBut d s.heap h' → Q () { s with heap := h', toks := t }) :
    wpAny (model prog w) A (dictSet d (.ref a) v) Q E s := by
  obtain ⟨o, es, ho, hc, hd, he, his, hn⟩ := hm
  unfold dictSet
  refine wpAny_holding ?_
  refine wpAny_bind ((tk prog w).pyHash hu hk ?_)
  unfold dictSetHashed
  refine wpAny_holding ?_
  refine wpAny_bind (wpAny_dictFind_heap (s := { s with toks := s.toks + (tk prog w).draws k }) hu hk ho hd he his hn ?_ ?_)
  · intro hno
    have e0 := atKey_none_of_get hno
    rw [storedH_new e0, e0] at hQ
    have hnot := not_mem_keys_of_get hno
    have hs : Heap.SameBut d s.heap (s.heap.update d (Obj.mapDictKeys (·.push ⟨(tk prog w).hash k, .ref a, v⟩))) := Heap.SameBut.update ..
    refine wpAny_bind (wpAny_rule (wpAny_updateDictKeys (hz := by have e := size_of_entries he; exact ar21 hsz e) (s := { s with toks := s.toks + (tk prog w).draws k }) ho hd
      (hQ _ _ ⟨_, _, Heap.get?_update_self _ ho (Obj.isFreed_of_dict (Obj.data_mapDictKeys hd _)), hc.mapDictKeys _, Obj.data_mapDictKeys hd _, ?_, ?_, ?_⟩ hs)))
    · simp [he, entryOfKey]
    · intro x hx
      rcases List.mem_append.mp hx with hx | hx
      · exact key_same ho hd hs (his x hx)
      · rw [List.mem_singleton.mp hx]; exact key_same ho hd hs hk
    · rw [List.map_append, List.nodup_append]
      refine ⟨hn, by simp, fun x hx y hy => ?_⟩
      simp only [List.map_cons, List.map_nil, List.mem_singleton] at hy
      subst hy
      exact fun e => hnot (e ▸ hx)
  · intro j p hj
    have e0 := atKey_of_get hn hj
    rw [storedH_old e0, e0] at hQ
    have hs : Heap.SameBut d s.heap (s.heap.update d (Obj.mapDict (·.modify j fun e => { e with val := v }))) := Heap.SameBut.update ..
    refine wpAny_bind (wpAny_rule (wpAny_bind (wpAny_updateDict (s := { s with toks := s.toks + (tk prog w).draws k }) ho hd (wpAny_point
      (hQ _ _ ⟨_, _, Heap.get?_update_self _ ho (Obj.isFreed_of_dict (Obj.data_mapDict hd _)), hc.mapDict _, Obj.data_mapDict hd _, ?_, ?_, ?_⟩ hs)))))
    · have h9 := modify_map_putAt (entryOfKey (tk prog w)) (fun e : DictEntry => { e with val := v }) k v (fun _ _ => rfl) hn hj
      rw [← he] at h9
      obtain ⟨l⟩ := es
      simpa using h9
    · intro x hx
      obtain ⟨y, hy, rfl⟩ := List.mem_map.mp hx
      have : (putAt k v y).1 = y.1 ∧ (putAt k v y).2.1 = y.2.1 := by unfold putAt; split <;> exact ⟨rfl, rfl⟩
      rw [this.1, this.2]
      exact key_same ho hd hs (his y hy)
    · rw [keys_map_putAt]; exact hn
theorem setItem_E {v : Value} {Q : Unit → Shared → Prop} (hu : A.in1.units < cLine) (hk : (tk prog w).is s.heap k a) (hm : DictE prog w s.heap d xs ep) (hsz : xs.length ≤ sizeLine)
    (hQ : ∀ h' t, DictE prog w h' d (storedH xs k a v) (match atKey xs k with | some _ => ep | none => ep + 1) → Heap.SameBut d s.heap h' → Q () { s with heap := h', toks := t }) :
    wpAny (model prog w) A (setItem (.ref d) (.ref a) v) Q E s := by
  unfold setItem
  refine wpAny_holding ?_
  refine wpAny_bind (wpAny_sequenceKey hm.typeIs (by decide) ?_)
  refine wpAny_bind (wpAny_callSpecial?_slot (name := Str.ofString "__setitem__") hm.typeIs slot_dict_setitem
    (wpAny_call_entry slot_dict_setitem hm.typeIs entry_dict_setitem ?_ (args_dict_setitem _ _ _)))
  show wpAny _ _ (Builtin.Dict.notOrdered "__setitem__" ⟨[.ref d, .ref a, v], []⟩ >>= _) _ _ s
  refine wpAny_bind (wpAny_notOrdered_dict hm.typeIs ?_)
  show wpAny _ _ (dictSet d (.ref a) v >>= _) _ _ s
  exact wpAny_bind (dictSet_E hu hk hm hsz fun h' t x hs => wpAny_pure ⟨.none, rfl, wpAny_pure (hQ h' t x hs)⟩)
/-- the rows without one key -/
noncomputable def dropAt (xs : List (List Int × Addr × Value)) (k : List Int) : List (List Int × Addr × Value) := xs.filter fun x => !decide (x.1 = k)
theorem eraseIdx_drop {β : Type} (f : List Int × Addr × Value → β) : ∀ {xs : List (List Int × Addr × Value)} {j : Nat} {p : Addr × Value}, (xs.map (·.1)).Nodup → xs[j]? = some (k, p) → (xs.map f).eraseIdx j = (dropAt xs k).map f
  | [], j, p, _, e => by simp at e
  | x :: r, 0, p, hn, e => by
    simp at e; subst e
    rw [List.map_cons, List.nodup_cons] at hn
    have : dropAt r k = r := List.filter_eq_self.mpr fun y hy => by
      simp only [Bool.not_eq_true', decide_eq_false_iff_not]
      exact fun q => hn.1 (List.mem_map.mpr ⟨y, hy, q⟩)
    simp only [List.map_cons, List.eraseIdx_cons_zero, dropAt, List.filter_cons, decide_true, Bool.not_true, Bool.false_eq_true, if_false]
    exact (congrArg (List.map f) this).symm
  | x :: r, j + 1, p, hn, e => by
    rw [List.map_cons, List.nodup_cons] at hn
    have e' : r[j]? = some (k, p) := by simpa using e
    have hne : ¬ x.1 = k := fun q => hn.1 (q ▸ List.mem_map.mpr ⟨(k, p), List.mem_of_getElem? e', rfl⟩)
    have ih := eraseIdx_drop f hn.2 e'
    simp only [List.map_cons, List.eraseIdx_cons_succ, dropAt, List.filter_cons, hne, decide_false, Bool.not_false, if_true, ih]
theorem pop_E {dflt : Value} {Q : Value → Shared → Prop} (hu : A.in1.units < cLine) (hk : (tk prog w).is s.heap k a) (hm : DictE prog w s.heap d xs ep) (hsz : xs.length ≤ sizeLine) (hd0 : (d == sysModules) = false)
    (hnone : atKey xs k = none → ∀ t, Q dflt { s with toks := t })
    (hsome : ∀ p, atKey xs k = some p → ∀ h' t, DictE prog w h' d (dropAt xs k) (ep + 1) → Heap.SameBut d s.heap h' → Q p.2 { s with heap := h', toks := t }) :
    wpAny (model prog w) A (call (.builtin "dict.pop") [.ref d, .ref a, dflt]) Q E s := by
  obtain ⟨o, es, ho, hc, hd, he, his, hn⟩ := id hm
  refine wpAny_call_entry F.slot_dict_pop hm.typeIs F.entry_dict_pop ?_ (F.args_dict_pop_3 _ _ _)
  unfold Builtin.«dict.pop»
  refine wpAny_bind ?_
  unfold Builtin.Dict.keyAndDefault
  refine wpAny_bind (wpAny_notOrdered_dict hm.typeIs ?_)
  show wpAny _ _ (pure (d, Value.ref a, some dflt)) _ _ s
  refine wpAny_pure ?_
  dsimp only
  refine wpAny_bind ?_
  refine wpAny_dictEntries ho hd (wpAny_bind (wpAny_pure ?_))
  have rest : ∀ t, atKey xs k = none → wpAny (model prog w) A.in1 (Builtin.Dict.missedRemoval d (.ref a) >>= fun _ => (rule "dict.pop.default" >>= fun _ => ret dflt)) (fun fin s' => ∃ v, fin = .done (.ret v) ∧ Q v s') E { s with toks := t } := fun t h0 =>
    wpAny_bind (wpAny_missedRemoval_other hd0 (wpAny_bind (wpAny_rule (wpAny_pure ⟨_, rfl, hnone h0 t⟩))))
  have hsz' : es.size = xs.length := size_of_entries he
  by_cases hemp : es.isEmpty = true
  · rw [if_pos hemp]
    have h0 : xs = [] := List.eq_nil_of_length_eq_zero (by rw [← hsz', Array.isEmpty_iff.mp hemp]; rfl)
    refine wpAny_bind (wpAny_rule (wpAny_bind (wpAny_pure ?_)))
    exact rest _ (by rw [h0]; rfl)
  · rw [if_neg hemp]
    refine wpAny_bind ?_
    unfold Builtin.Dict.takeOut
    refine wpAny_holding ?_
    refine wpAny_bind ((tk prog w).pyHash hu hk ?_)
    refine wpAny_bind (wpAny_dictFind_heap (s := { s with toks := s.toks + (tk prog w).draws k }) hu hk ho hd he his hn ?_ ?_)
    · intro hno
      exact wpAny_pure (rest _ (atKey_none_of_get hno))
    · intro j p hj
      have e0 := atKey_of_get hn hj
      refine wpAny_bind (wpAny_dictEntries (s := { s with toks := s.toks + (tk prog w).draws k }) ho hd ?_)
      rw [entry_at he j, hj]
      have hs : Heap.SameBut d s.heap (s.heap.update d (Obj.mapDictKeys (·.eraseIdxIfInBounds j))) := Heap.SameBut.update ..
      refine wpAny_bind (wpAny_updateDictKeys (hz := by exact ar21 hsz hsz') (hf := by show (es.eraseIdxIfInBounds j).size ≤ es.size + 1; unfold Array.eraseIdxIfInBounds; split <;> simp <;> exact Nat.le_add_right _ 2) (s := { s with toks := s.toks + (tk prog w).draws k }) ho hd (wpAny_pure ?_))
      show wpAny _ _ (letGo [(entryOfKey (tk prog w) (k, p)).key] [(entryOfKey (tk prog w) (k, p)).val] >>= fun _ =>
        ret (entryOfKey (tk prog w) (k, p)).val) _ _ _
      refine wpAny_bind (wpAny_letGo (wpAny_pure ⟨_, rfl, ?_⟩))
      refine hsome p e0 _ _ ⟨_, _, Heap.get?_update_self _ ho (Obj.isFreed_of_dict (Obj.data_mapDictKeys hd _)), hc.mapDictKeys _, Obj.data_mapDictKeys hd _, ?_, ?_, ?_⟩ hs
      · have := eraseIdx_drop (entryOfKey (tk prog w)) hn hj
        rw [← he] at this
        obtain ⟨l⟩ := es
        rw [← this]
        simp only [Array.eraseIdxIfInBounds]
        split
        · simp
        · rename_i q
          exact absurd (by have := (List.getElem?_eq_some_iff.mp hj).1; simp at hsz'; simp; exact ar80 this hsz') q
      · intro x hx
        exact key_same ho hd hs (his x (List.mem_filter.mp hx).1)
      · exact hn.sublist ((List.filter_sublist).map _)
end Mine
namespace Mine
open PySem PySem.Calls PyProof.Rows
variable {prog : Program} {w : World} {A : Around} {E : Value → Shared → Prop} {s : Shared} {d a : Addr} {xs : List (List Int × Addr × Value)} {ep : Nat} {k : List Int}
theorem apart_pairwise : ∀ {l : List Int}, apart l = true → l.Pairwise (· ≠ ·)
  | [], _ => .nil
  | x :: r, h => by
    simp only [apart, Bool.and_eq_true, List.all_eq_true, bne_iff_ne] at h
    exact .cons h.1 (apart_pairwise h.2)
theorem filter_one {α : Type} {f : α → Int} : ∀ {l : List α}, (l.map f).Pairwise (· ≠ ·) → ∀ x : Int, (l.filter fun y => f y == x).length ≤ 1
  | [], _, _ => by simp
  | y :: r, h, x => by
    rw [List.map_cons, List.pairwise_cons] at h
    by_cases q : f y = x
    · have : r.filter (fun y => f y == x) = [] := List.filter_eq_nil_iff.mpr fun z hz => by
        simp only [beq_iff_eq]
        exact fun e => h.1 _ (List.mem_map_of_mem hz) (q.trans e.symm)
      rw [List.filter_cons, if_pos (by simpa using q), this]; simp
    · rw [List.filter_cons, if_neg (by simpa using q)]
      exact filter_one h.2 x
theorem entries_E {id : String} {Q : Array DictEntry → Shared → Prop} {o : Obj} {es : Array DictEntry} (ho : s.heap.get? d = some o) (hd : o.data = .dict es ep) (he : es.toList = xs.map (entryOfKey (tk prog w)))
    (his : ∀ x ∈ xs, (tk prog w).is s.heap x.1 x.2.1) (hh : (xs.map fun x => (tk prog w).hash x.1).Pairwise (· ≠ ·)) (h : Q es s) : wpAny (model prog w) A (Builtin.Dict.entriesForEmpty id d) Q E s := by
  unfold Builtin.Dict.entriesForEmpty
  refine wpAny_bind (wpAny_dictEntries ho hd ?_)
  refine wpAny_bind ?_
  show wpAny _ _ (forIn es _ _) _ _ s
  rw [← Array.forIn_toList]
  refine wpAny_forIn_list _ (fun rest _ s' => s' = s ∧ ∀ e ∈ rest, e ∈ es.toList) _ ?_ ?_ _ _ ⟨rfl, fun _ h => h⟩
  · rintro e rest u s' ⟨rfl, hr⟩
    have hin := hr e List.mem_cons_self
    rw [he] at hin
    obtain ⟨x, hx, rfl⟩ := List.mem_map.mp hin
    have hT : s'.TypeIs (.ref x.2.1) "tuple" := IsTupleKey.typeIs (his x hx)
    refine wpAny_bind ?_
    show wpAny _ _ (Builtin.Dict.quietEq (.ref x.2.1)) _ _ s'
    unfold Builtin.Dict.quietEq
    refine wpAny_bind (wpAny_specialOf hT F.slot_tuple_eq.lookup (wpAny_pure ?_))
    have hq : (some (Value.builtin "tuple.__eq__") == some (Value.builtin "object.__eq__")) = false := by decide
    rw [hq]
    simp only [Bool.not_false, if_true]
    rw [if_neg]
    · exact wpAny_pure ⟨rfl, fun e he => hr e (List.mem_cons_of_mem _ he)⟩
    · rw [← Array.length_toList, Array.toList_filter, he, List.filter_map, List.length_map]
      have := filter_one (f := fun x : List Int × Addr × Value => (tk prog w).hash x.1) hh ((tk prog w).hash x.1)
      exact Nat.not_lt.mpr this
  · rintro u s' ⟨rfl, _⟩
    exact wpAny_pure h
theorem copy_E {Q : Value → Shared → Prop} (hoS : (d == sysModules) = false) (hm : DictE prog w s.heap d xs ep) (hsz : xs.length ≤ sizeLine) (hh : (xs.map fun x => (tk prog w).hash x.1).Pairwise (· ≠ ·))
    (h : ∀ h' t, DictE prog w h' s.heap.objs.size xs (if xs.isEmpty then 0 else 1) → Heap.SameBut s.heap.objs.size (s.heap.push { cls := .type "dict", data := .dict #[] }) h' → Q (.ref s.heap.objs.size) { s with heap := h', toks := t }) :
    wpAny (model prog w) A (call (.type "dict") [.ref d]) Q E s := by
  refine callType_codes (Q₁ := fun obj s₁ => obj = .ref s.heap.objs.size ∧ s₁ = { s with heap := s.heap.push { cls := .type "dict", data := .dict #[] } }) F.kt_called_dict (F.kt_typeCall_dict_1 _) F.entry_dict_init (kt_code_dict_new _ ⟨rfl, rfl⟩) ?_
  rintro obj s₁ ⟨rfl, rfl⟩
  have hg : (s.heap.push { cls := .type "dict", data := .dict #[] }).get? s.heap.objs.size = some { cls := .type "dict", data := .dict #[] } := Heap.get?_push_size _ rfl
  have hnT : Shared.TypeIs { s with heap := s.heap.push { cls := .type "dict", data := .dict #[] } } (.ref s.heap.objs.size) "dict" := ⟨_, hg, rfl⟩
  have ho' : DictE prog w (s.heap.push { cls := .type "dict", data := .dict #[] }) d xs ep := hm.grow (fun b items ⟨o, h1, r⟩ => ⟨o, Heap.get?_push_of_some _ h1, r⟩) fun o e => Heap.get?_push_of_some _ e
  have hoT : Shared.TypeIs { s with heap := s.heap.push { cls := .type "dict", data := .dict #[] } } (.ref d) "dict" := ho'.ofH.typeIs (s := { s with heap := s.heap.push { cls := .type "dict", data := .dict #[] } })
  have hdo : s.heap.objs.size ≠ d := by
    obtain ⟨o, _, e, _⟩ := hm
    exact fun q => absurd (Heap.lt_size e) (by rw [← q]; exact Nat.lt_irrefl _)
  obtain ⟨o, es, ho, hc, hd, he, his, hn⟩ := ho'
  refine ⟨hnT, F.args_dict_init_2 _ _, ?_⟩
  unfold Builtin.«dict.__init__»
  refine wpAny_bind ?_
  unfold Builtin.Dict.selfAndRest
  refine wpAny_bind (wpAny_notOrdered_dict hnT ?_)
  show wpAny _ _ (pure (s.heap.objs.size, [Value.ref d])) _ _ _
  refine wpAny_pure ?_
  show wpAny _ _ (Builtin.Dict.updateFrom "dict.__init__" s.heap.objs.size (.ref d) [] .none) _ _ _
  unfold Builtin.Dict.updateFrom
  refine wpAny_bind (wpAny_typeOf hoT ?_)
  rw [if_neg (by decide)]
  refine wpAny_bind ?_
  unfold Builtin.Dict.merge
  refine wpAny_bind ?_
  unfold Builtin.Dict.readDirectly
  refine wpAny_bind (wpAny_isInstance hoT isSubtype_dict_dict ?_)
  simp only [Bool.not_true, Bool.false_eq_true, if_false]
  refine wpAny_bind (wpAny_specialOf hoT F.slot_dict_iter.lookup (wpAny_pure ?_))
  simp only [beq_self_eq_true, if_true]
  refine wpAny_bind (wpAny_pure ?_)
  have fin : ∀ h' t, DictE prog w h' s.heap.objs.size xs (if xs.isEmpty then 0 else 1) → Heap.SameBut s.heap.objs.size (s.heap.push { cls := .type "dict", data := .dict #[] }) h' →
      wpAny (model prog w) A.in1.in1 (Builtin.Dict.addKeywords s.heap.objs.size [] >>= fun _ => ret .none)
        (fun fin s' => match fin with | .done f => wants (fun r s₂ => r = .none ∧ Q (.ref s.heap.objs.size) s₂) E (.ok f) s' | .again c' => c'.quiet = true ∧ codeAny (model prog w) A.in1 c' (wants (fun r s₂ => r = .none ∧ Q (.ref s.heap.objs.size) s₂) E) s')
        (fun e s' => wants (fun r s₂ => r = .none ∧ Q (.ref s.heap.objs.size) s₂) E (.error e) s') { s with heap := h', toks := t } := fun h' t hx hs =>
    wpAny_bind (wpAny_pure (wpAny_pure ⟨rfl, h h' t hx hs⟩))
  unfold Builtin.Dict.mergeDict
  rw [if_neg (by simpa using hdo)]
  unfold Builtin.Dict.showsAll
  rw [if_neg (by rw [hoS]; exact Bool.false_ne_true)]
  refine wpAny_bind (wpAny_pure ?_)
  refine wpAny_bind (wpAny_dictEntries ho hd ?_)
  have hsz' : es.size = xs.length := size_of_entries he
  cases xs with
  | nil =>
    have h0 : es = #[] := by simpa using he
    subst h0
    have hfew : (decide ((#[] : Array DictEntry).size ≤ 8) && (#[] : Array DictEntry).all fun e => (keyPart e.key).isSome) = true := by simp
    simp only [hfew, Bool.not_true, Bool.false_eq_true, if_false]
    refine wpAny_bind ?_
    refine wpAny_dictEpoch ho hd ?_
    refine wpAny_bind ?_
    refine wpAny_dictEntries ho hd ?_
    refine wpAny_bind ?_
    rw [Std.Legacy.Range.forIn_eq_forIn_range']
    refine wpAny_pure ?_
    refine wpAny_pure ?_
    refine fin _ _ ⟨_, #[], hg, ⟨rfl, rfl, rfl⟩, rfl, rfl, fun _ hx => by simp at hx, List.nodup_nil⟩ (Heap.SameBut.refl ..)
  | cons x r =>
    have hfew : (decide (es.size ≤ 8) && es.all fun e => (keyPart e.key).isSome) = false := by
      rw [Bool.and_eq_false_iff]
      refine .inr ?_
      rw [← Array.all_toList, he]
      rfl
    simp only [hfew, Bool.not_false, if_true]
    refine wpAny_bind (wpAny_dictEntries hg rfl ?_)
    simp only [show (#[] : Array DictEntry).isEmpty = true from rfl, if_true]
    refine wpAny_bind (entries_E ho hd he his hh ?_)
    have hne : es.isEmpty = false := by
      rw [Array.isEmpty_eq_false_iff]
      exact fun q => by rw [q] at hsz'; simp at hsz'
    simp only [hne, Bool.not_false, if_true]
    have hs : Heap.SameBut s.heap.objs.size (s.heap.push { cls := .type "dict", data := .dict #[] }) ((s.heap.push { cls := .type "dict", data := .dict #[] }).update s.heap.objs.size (Obj.mapDictKeys fun _ => es)) := Heap.SameBut.update ..
    refine wpAny_bind (wpAny_updateDictKeysTo (s := { s with heap := s.heap.push { cls := .type "dict", data := .dict #[] } }) hg rfl ?_ (by rw [hsz']; exact Nat.le_trans hsz (Nat.le_succ _)))
    refine wpAny_pure ?_
    refine fin _ _ ⟨_, es, Heap.get?_update_self _ hg rfl, ⟨rfl, rfl, rfl⟩, rfl, he, fun y hy => ?_, hn⟩ hs
    exact key_same hg rfl hs (his y hy)
end Mine
namespace Mine
open PySem PySem.Calls PyProof.Rows
variable {prog : Program} {w : World} {A : Around} {E : Value → Shared → Prop} {s : Shared} {d a : Addr} {xs : List (List Int × Addr × Value)} {ep : Nat} {k : List Int}
theorem iter_E {Q : Value → Shared → Prop} (hd0 : (d == sysModules) = false) (hm : DictE prog w s.heap d xs ep)
    (hQ : Q (.ref s.heap.objs.size) { s with heap := s.heap.push { cls := .type "dict_keyiterator", data := .fields #[.ref d, .int 0 0, .int xs.length 0, .int ep 0] } }) :
    wpAny (model prog w) A (pyIter (.ref d)) Q E s := by
  obtain ⟨o, es, ho, hc, hd, he, _⟩ := id hm
  have hT := hm.typeIs
  have hsz := size_of_entries he
  refine wpAny_pyIter_slot hT F.slot_dict_iter (wpAny_call_entry F.slot_dict_iter hT F.entry_dict_iter ?_ (F.args_dict_iter_1 _))
  unfold Builtin.«dict.__iter__»
  refine wpAny_bind ?_
  unfold Builtin.Dict.dictSlotNone
  refine wpAny_bind (wpAny_notOrdered_dict hT ?_)
  show wpAny _ _ (pure (Value.ref d)) _ _ s
  refine wpAny_pure ?_
  show wpAny _ _ (Builtin.Dict.showsAll d >>= _) _ _ s
  unfold Builtin.Dict.showsAll
  rw [if_neg (by rw [hd0]; exact Bool.false_ne_true)]
  refine wpAny_bind (wpAny_pure ?_)
  refine wpAny_bind (wpAny_dictEntries ho hd ?_)
  refine wpAny_bind (wpAny_dictEpoch ho hd ?_)
  refine wpAny_bind (wpAny_newObj_type (wpAny_pure ⟨_, rfl, "dict_keyiterator", _, ⟨_, Heap.get?_push_size _ rfl, rfl⟩, F.slot_dict_keyiterator_next.lookup, ?_⟩))
  simpa [rawInt, hsz] using hQ
theorem next_E {it : Addr} {i : Nat} {x : List Int × Addr × Value} {Q : Option Value → Shared → Prop} (hit : s.heap.IsKeyIter it d i xs.length ep) (hm : DictE prog w s.heap d xs ep) (hx : xs[i]? = some x)
    (hQ : ∀ h', h'.IsKeyIter it d (i + 1) xs.length ep → Heap.SameBut it s.heap h' → Q (some (.ref x.2.1)) { s with heap := h' }) : wpAny (model prog w) A (pyNext (.ref it)) Q E s := by
  obtain ⟨o, ho, hc, hd⟩ := id hit
  obtain ⟨od, es, hod, hcd, hdd, he, _⟩ := id hm
  have hsz : es.size = xs.length := size_of_entries he
  have hex : es[i]? = some (entryOfKey (tk prog w) x) := by rw [entry_at he i, hx]; rfl
  unfold pyNext
  refine wpAny_bind (wpAny_attempt (wpAny_callSpecial?_slot (name := Str.ofString "__next__") hit.typeIs F.slot_dict_keyiterator_next
    (wpAny_call_entry F.slot_dict_keyiterator_next hit.typeIs F.entry_dict_keyiterator_next ?_ (F.args_dict_keyiterator_next_1 _))))
  refine wpAny_bind (wpAny_pure ?_)
  refine wpAny_bind ?_
  refine wpAny_bind ?_
  refine wpAny_bind (wpAny_typeNameOfWhole_keyiter hit.typeIs (wpAny_pure ?_))
  refine wpAny_bind (wpAny_fieldsOf ho hd ?_)
  simp only [show Builtin.Dict_items.ownsTuple "dict_keyiterator" = false from by decide, Bool.false_eq_true, if_false]
  show wpAny _ _ (if (Value.ref d == Value.none) = true then _ else _) _ _ s
  rw [if_neg (show ¬ ((Value.ref d == Value.none) = true) from Bool.false_ne_true)]
  refine wpAny_bind (wpAny_pure ?_)
  refine wpAny_bind (wpAny_dictEntries hod hdd ?_)
  rw [if_neg (by rw [hsz]; simp)]
  refine wpAny_bind (wpAny_pure ?_)
  refine wpAny_bind (wpAny_dictEpoch hod hdd ?_)
  rw [if_neg (by simp)]
  refine wpAny_pure ?_
  simp only [show ¬ ((i : Int) < 0) from by exact ar1, if_false, Int.toNat_natCast, hex]
  refine wpAny_bind ?_
  refine wpAny_bind (wpAny_typeNameOfWhole_keyiter hit.typeIs (wpAny_pure ?_))
  refine wpAny_bind (wpAny_isOneOf_keyiter hit.typeIs ?_)
  show wpAny _ _ (setField (.ref it) 1 (rawInt ((i : Int) + 1)) >>= _) _ _ s
  refine wpAny_bind (wpAny_setField ho hd (by simp) ?_)
  have hit' : (s.heap.update it (Obj.mapFields (·.setIfInBounds 1 (rawInt ((i : Int) + 1))))).IsKeyIter it d (i + 1) xs.length ep :=
    ⟨_, Heap.get?_update_self _ ho (Obj.isFreed_of_fields (Obj.data_mapFields hd _)), (Obj.cls_mapFields ..).trans hc, by rw [Obj.data_mapFields hd]; simp [rawInt]⟩
  refine wpAny_bind (wpAny_holding ?_)
  refine wpAny_bind (wpAny_isOneOf_keyiter (s := { s with heap := s.heap.update it (Obj.mapFields (·.setIfInBounds 1 (rawInt ((i : Int) + 1)))) }) hit'.typeIs ?_)
  show wpAny _ _ (pure (Value.ref x.2.1)) _ _ _
  exact wpAny_pure (wpAny_pure ⟨_, rfl, wpAny_pure (hQ _ hit' (Heap.SameBut.update ..))⟩)
theorem stop_E {it : Addr} {i : Nat} {Q : Option Value → Shared → Prop} (hh : A.handled = none) (hit : s.heap.IsKeyIter it d i xs.length ep) (hm : DictE prog w s.heap d xs ep) (hx : xs[i]? = none)
    (hQ : ∀ h', Heap.ExtBut it s.heap h' → Q none { s with heap := h' }) : wpAny (model prog w) A (pyNext (.ref it)) Q E s := by
  obtain ⟨o, ho, hc, hd⟩ := id hit
  obtain ⟨od, es, hod, hcd, hdd, he, _⟩ := id hm
  have hsz : es.size = xs.length := size_of_entries he
  have hex : es[i]? = none := by rw [entry_at he i, hx]; rfl
  unfold pyNext
  refine wpAny_bind (wpAny_attempt (wpAny_callSpecial?_slot (name := Str.ofString "__next__") hit.typeIs F.slot_dict_keyiterator_next
    (wpAny_call_entry F.slot_dict_keyiterator_next hit.typeIs F.entry_dict_keyiterator_next ?_ (F.args_dict_keyiterator_next_1 _))))
  refine wpAny_bind (wpAny_pure ?_)
  refine wpAny_bind ?_
  refine wpAny_bind ?_
  refine wpAny_bind (wpAny_typeNameOfWhole_keyiter hit.typeIs (wpAny_pure ?_))
  refine wpAny_bind (wpAny_fieldsOf ho hd ?_)
  simp only [show Builtin.Dict_items.ownsTuple "dict_keyiterator" = false from by decide, Bool.false_eq_true, if_false]
  show wpAny _ _ (if (Value.ref d == Value.none) = true then _ else _) _ _ s
  rw [if_neg (show ¬ ((Value.ref d == Value.none) = true) from Bool.false_ne_true)]
  refine wpAny_bind (wpAny_pure ?_)
  refine wpAny_bind (wpAny_dictEntries hod hdd ?_)
  rw [if_neg (by rw [hsz]; simp)]
  refine wpAny_bind (wpAny_pure ?_)
  refine wpAny_bind (wpAny_dictEpoch hod hdd ?_)
  rw [if_neg (by simp)]
  refine wpAny_pure ?_
  simp only [show ¬ ((i : Int) < 0) from by exact ar1, if_false, Int.toNat_natCast, hex]
  refine wpAny_bind ?_
  refine wpAny_bind (wpAny_typeNameOfWhole_keyiter hit.typeIs (wpAny_pure ?_))
  show wpAny _ _ (setField (.ref it) 0 .none >>= _) _ _ s
  refine wpAny_bind (wpAny_setField ho hd (by simp) ?_)
  show wpAny _ _ (newExc (.type "StopIteration") [] >>= _) _ _ _
  refine wpAny_bind ?_
  simp only [newExc, newTuple]
  refine wpAny_bind (wpAny_newObj_type ?_ (by size_fits))
  refine wpAny_bind (m := firstArgMember _ _) (wpAny_of_eq (a := Value.none) (by first | rfl | (simp only [firstArgMember]; rfl)) ?_)
  refine wpAny_newObj_type ?_ (by size_fits)
  simp only [raiseNew]
  refine wpAny_bind (wpAny_handled ?_)
  rw [show A.in1.handled = none from hh]
  refine wpAny_bind (wpAny_pure (wpAny_throw ?_))
  refine wpAny_bind (wpAny_isInstance (T := "StopIteration") (b := true) ⟨_, Heap.get?_push_size _ rfl, rfl⟩ isSubtype_stop ?_)
  exact wpAny_pure (hQ _ (((Heap.SameBut.update ..).extBut.push _).push _))
theorem nextOf_tup {it t : Addr} {i : Nat} {items : Array Value} {x : Value} {Q : Value → Shared → Prop} (hit : s.heap.IsTupleIter it t i) (ht : s.heap.IsTuple t items) (hx : items[i]? = some x)
    (hQ : ∀ h', h'.IsTupleIter it t (i + 1) → Heap.SameBut it s.heap h' → Q x { s with heap := h' }) : wpAny (model prog w) A (Builtin.SmallTypes.nextOf (.ref it)) Q E s := by
  obtain ⟨o, ho, hc, hd⟩ := id hit
  obtain ⟨ol, hol, _, nl, hdl⟩ := ht
  unfold Builtin.SmallTypes.nextOf
  refine wpAny_bind (wpAny_callSpecial?_slot (name := Str.ofString "__next__") hit.typeIs F.slot_tuple_iterator_next
    (wpAny_call_entry F.slot_tuple_iterator_next hit.typeIs F.entry_tuple_iterator_next ?_ (F.args_tuple_iterator_next_1 _)))
  show wpAny _ _ (field (.ref it) 0 >>= _) _ _ s
  refine wpAny_bind (wpAny_field ho hd (x := .ref t) rfl ?_)
  show wpAny _ _ (if (Value.ref t == Value.none) = true then _ else _) _ _ s
  rw [if_neg (show ¬ ((Value.ref t == Value.none) = true) from Bool.false_ne_true)]
  show wpAny _ _ (field (.ref it) 1 >>= _) _ _ s
  refine wpAny_bind (wpAny_field ho hd (x := .int i 0) rfl ?_)
  show wpAny _ _ (seqItems? (.ref t) >>= _) _ _ s
  refine wpAny_bind (wpAny_seqItems hol hdl ?_)
  simp only [Int.toNat_natCast, hx]
  refine wpAny_bind (wpAny_setField ho hd (by simp) (wpAny_pure ⟨x, rfl, wpAny_pure (hQ _ ?_ (Heap.SameBut.update ..))⟩))
  exact ⟨_, Heap.get?_update_self _ ho (Obj.isFreed_of_fields (Obj.data_mapFields hd _)), (Obj.cls_mapFields ..).trans hc, by
    rw [Obj.data_mapFields hd]; simp [rawInt]⟩
theorem stopOf_tup {it t : Addr} {i : Nat} {items : Array Value} {Q : Value → Shared → Prop} (hh : A.handled = none) (hit : s.heap.IsTupleIter it t i) (ht : s.heap.IsTuple t items) (hx : items[i]? = none)
    (hE : ∀ h' e, Heap.ExtBut it s.heap h' → (∃ o, h'.get? e = some o ∧ o.cls = .type "StopIteration") → E (.ref e) { s with heap := h' }) : wpAny (model prog w) A (Builtin.SmallTypes.nextOf (.ref it)) Q E s := by
  obtain ⟨o, ho, hc, hd⟩ := id hit
  obtain ⟨ol, hol, _, nl, hdl⟩ := ht
  unfold Builtin.SmallTypes.nextOf
  refine wpAny_bind (wpAny_callSpecial?_slot (name := Str.ofString "__next__") hit.typeIs F.slot_tuple_iterator_next
    (wpAny_call_entry F.slot_tuple_iterator_next hit.typeIs F.entry_tuple_iterator_next ?_ (F.args_tuple_iterator_next_1 _)))
  show wpAny _ _ (field (.ref it) 0 >>= _) _ _ s
  refine wpAny_bind (wpAny_field ho hd (x := .ref t) rfl ?_)
  show wpAny _ _ (if (Value.ref t == Value.none) = true then _ else _) _ _ s
  rw [if_neg (show ¬ ((Value.ref t == Value.none) = true) from Bool.false_ne_true)]
  show wpAny _ _ (field (.ref it) 1 >>= _) _ _ s
  refine wpAny_bind (wpAny_field ho hd (x := .int i 0) rfl ?_)
  show wpAny _ _ (seqItems? (.ref t) >>= _) _ _ s
  refine wpAny_bind (wpAny_seqItems hol hdl ?_)
  simp only [Int.toNat_natCast, hx]
  refine wpAny_bind (wpAny_rule (wpAny_bind (wpAny_setField ho hd (by simp) ?_)))
  show wpAny _ _ (newExc (.type "StopIteration") [] >>= _) _ _ _
  refine wpAny_bind ?_
  simp only [newExc, newTuple]
  refine wpAny_bind (wpAny_newObj_type ?_ (by size_fits))
  refine wpAny_bind (m := firstArgMember _ _) (wpAny_of_eq (a := Value.none) (by first | rfl | (simp only [firstArgMember]; rfl)) ?_)
  refine wpAny_newObj_type ?_ (by size_fits)
  simp only [raiseNew]
  refine wpAny_bind (wpAny_handled ?_)
  rw [show A.in1.handled = none from hh]
  refine wpAny_bind (wpAny_pure (wpAny_throw ?_))
  exact hE _ _ (((Heap.SameBut.update ..).extBut.push _).push _) ⟨_, Heap.get?_push_size _ rfl, rfl⟩
theorem draws_tup (hh : A.handled = none) (it t : Addr) (hne : t ≠ it) (items : Array Value) :
    Draws prog w A it [it, t] items.size (fun i v => items[i]? = some v) (fun i h => h.IsTupleIter it t i ∧ h.IsTuple t items) where
  live := fun _ _ st => let ⟨o, ho, _⟩ := st.1; ⟨o, ho⟩
  frame := fun _ _ _ st hk => ⟨st.1.at fun o e => hk it (by simp) o e, st.2.at fun o e => hk t (by simp) o e⟩
  item := fun i s Q E hi st hQ => by
    refine nextOf_tup st.1 st.2 (x := items[i]) (by simp [hi]) fun h' hit' hs' => ?_
    exact hQ _ h' s.toks (by simp [hi]) ⟨hit', st.2.extBut hs'.extBut hne⟩ hs'
  done := fun s Q E st hE => stopOf_tup hh st.1 st.2 (by simp) hE
theorem pure_bool {M : Model} {A : Around} {b : Bool} {Q : Bool → Shared → Prop} {E : Value → Shared → Prop} {s : Shared} (h : ∀ b, Q b s) : wpAny M A (pure b) Q E s := wpAny_pure (h b)
open AutoSeq1 (wpAny_loadPart') in
theorem enum_new_tup (t : Addr) (items : Array Value) (n : Nat) (dct : Option Addr) (sl : Array (Option Value)) :
    Meets (Builtin.«enumerate.__new__» ⟨[.type "enumerate", .ref t], []⟩) (fun _ R s => s.heap.get? t = some { cls := .type "tuple", dict := dct, data := .seq items n, slots := sl } ∧
      R (.ok (.ret (.ref (s.heap.push { cls := .type "tuple_iterator", data := .fields #[.ref t, .int 0 0] }).objs.size)))
        { s with heap := (s.heap.push { cls := .type "tuple_iterator", data := .fields #[.ref t, .int 0 0] }).push { cls := .type "enumerate", data := .fields #[.none, .bool false, .ref s.heap.objs.size, rawInt 0, .none, .none] } }) :=
  .of_wp fun prog w A R s h => by
    obtain ⟨hp, g, d, tk, os⟩ := s; obtain ⟨hl, h⟩ := h
    have hsub := sub_enumerate
    have hL : Heap.IsTuple (Shared.heap ⟨hp, g, d, tk, os⟩) t items := ⟨_, hl, rfl, n, rfl⟩
    wp_walk using wpAny_loadPart' hl
    refine wpAny_stack_any fun st => pure_bool fun bb => ?_
    cases bb
    · wp_walk using wpAny_loadPart' hl, wpAny_pyIter_tuple hL
      exact ⟨_, rfl, h⟩
    · wp_walk using wpAny_loadPart' hl, wpAny_pyIter_tuple hL
      exact ⟨_, rfl, h⟩
theorem enum_tup {t : Addr} {items : Array Value} {Q : Value → Shared → Prop} (hL : s.heap.IsTuple t items)
    (h : ∀ h', IsEnum h' (s.heap.objs.size + 1) s.heap.objs.size 0 .none → h'.IsTupleIter s.heap.objs.size t 0 → h'.objs.size = s.heap.objs.size + 2 →
      (∀ b o, s.heap.get? b = some o → h'.get? b = some o) → Q (.ref (s.heap.objs.size + 1)) { s with heap := h' }) :
    wpAny (model prog w) A (call (.type "enumerate") [.ref t]) Q E s := by
  obtain ⟨⟨c, dct, dt, sl⟩, hl, hc, n, hd⟩ := hL
  replace hc : c = .type "tuple" := hc
  replace hd : dt = .seq items n := hd
  subst hc hd
  refine callType_new F.called_enumerate (by decide) (F.typeCall_enumerate_1 _) (F.newCall_enumerate_1 _) (fun obj => F.args_object_init_2 obj _) F.entry_enumerate_new
    (enum_new_tup t items n dct sl) ⟨hl, ?_⟩
  have hz : (s.heap.push { cls := .type "tuple_iterator", data := .fields #[.ref t, .int 0 0] }).objs.size = s.heap.objs.size + 1 := Heap.size_push ..
  show _ ∧ _
  rw [hz]
  have he : IsEnum ((s.heap.push { cls := .type "tuple_iterator", data := .fields #[.ref t, .int 0 0] }).push
      { cls := .type "enumerate", data := .fields #[.none, .bool false, .ref s.heap.objs.size, rawInt 0, .none, .none] }) (s.heap.objs.size + 1) s.heap.objs.size 0 .none := by
    have := Heap.get?_push_size (s.heap.push { cls := .type "tuple_iterator", data := .fields #[.ref t, .int 0 0] })
      (o := { cls := .type "enumerate", data := .fields #[.none, .bool false, .ref s.heap.objs.size, rawInt 0, .none, .none] }) rfl
    rw [hz] at this; exact this
  refine ⟨⟨_, he, rfl⟩, h _ he ⟨_, Heap.get?_push_of_some _ (Heap.get?_push_size _ rfl), rfl, rfl⟩ (by rw [Heap.size_push, hz]) fun b o x => Heap.get?_push_of_some _ (Heap.get?_push_of_some _ x)⟩
end Mine
namespace Mine
open PySem PySem.Calls PyProof.Rows
noncomputable abbrev noE : Value → Shared → Prop := fun _ _ => False
/-- room for a step: n calls deep at most from here -/
structure Rm (A : Around) (n : Nat) : Prop where
  hh : A.handled = none
  depth : A.depth + n < 900
  units : A.units + 10 * n < 9000
theorem Rm.le {A : Around} {n m : Nat} (r : Rm A n) (h : m ≤ n) : Rm A m := ⟨r.hh, by have := r.depth; exact ar100 h this, by have := r.units; exact ar104 h this⟩
theorem Rm.u {A : Around} {n : Nat} (r : Rm A n) : A.units < cLine := by have := r.units; unfold cLine; exact ar101 this
theorem Rm.u1 {A : Around} {n : Nat} (r : Rm A n) : A.in1.units < cLine := by have := r.units; show A.units + 1 < cLine; unfold cLine; exact ar103 this
theorem Rm.in1 {A : Around} {n : Nat} (r : Rm A (n + 1)) : Rm A.in1 n := ⟨r.hh, by have := r.depth; show A.depth + n < _; exact Nat.lt_of_succ_lt this, by have := r.units; show A.units + 1 + 10 * n < _; exact ar106 this⟩
variable {prog : Program} {w : World} {A : Around} {E : Value → Shared → Prop} {s : Shared} {d a : Addr} {xs : List (List Int × Addr × Value)} {ep : Nat} {k : List Int} {h₀ : Heap} {μ : List Addr} {σ σ' : Store} {N : Nat}
/-- what an expression's end says -/
inductive PV (prog : Program) (w : World) (h₀ : Heap) (μ : List Addr) (s : Shared) (σ' : Store) (V : V) (r : Value) (s' : Shared) : Prop
  | mk (μ' : List Addr) : Stt prog w h₀ μ' σ' s' → Rep h₀ s'.heap μ' r V → Evo noX μ s μ' s' → PV prog w h₀ μ s σ' V r s'
inductive PU (prog : Program) (w : World) (h₀ : Heap) (μ : List Addr) (s : Shared) (σ' : Store) (x : Unit) (s' : Shared) : Prop
  | mk (μ' : List Addr) : Stt prog w h₀ μ' σ' s' → Evo noX μ s μ' s' → PU prog w h₀ μ s σ' x s'
theorem PV.F {V0 : V} {Q : Value → Shared → Prop} (k : ∀ u s1 μ1, Stt prog w h₀ μ1 σ' s1 → Rep h₀ s1.heap μ1 u V0 → Evo noX μ s μ1 s1 → Q u s1) : ∀ u s1, PV prog w h₀ μ s σ' V0 u s1 → Q u s1 := fun u s1 ⟨μ1, S1, r1, E1⟩ => k u s1 μ1 S1 r1 E1
theorem PU.F {Q : Unit → Shared → Prop} (k : ∀ u s1 μ1, Stt prog w h₀ μ1 σ' s1 → Evo noX μ s μ1 s1 → Q u s1) : ∀ u s1, PU prog w h₀ μ s σ' u s1 → Q u s1 := fun u s1 ⟨μ1, S1, E1⟩ => k u s1 μ1 S1 E1
theorem PV.kept (S : Stt prog w h₀ μ σ s) {h' : Heap} {t : Nat} {v : Value} {W : V} (hk : ∀ b o, s.heap.get? b = some o → h'.get? b = some o) (r : Rep h₀ h' μ v W) : PV prog w h₀ μ s σ W v { s with heap := h', toks := t } :=
  ⟨μ, S.stp0 (Stp.kept t hk), r, .ofNo (Stp.kept t hk)⟩
theorem PV.toks (S : Stt prog w h₀ μ σ s) {t : Nat} {v : Value} {W : V} (r : Rep h₀ s.heap μ v W) : PV prog w h₀ μ s σ W v { s with toks := t } := PV.kept S (fun _ _ e => e) r
theorem PV.here (S : Stt prog w h₀ μ σ s) {v : Value} {W : V} (r : Rep h₀ s.heap μ v W) : PV prog w h₀ μ s σ W v s := PV.toks (t := s.toks) S r
theorem Rep.int_inv {h : Heap} {v : Value} {i : Int} (r : Rep h₀ h μ v (.int i)) : ∃ t, v = .int i t := by cases r; exact ⟨_, rfl⟩
theorem Rep.obj_inv {h : Heap} {v : Value} {n : Nat} (r : Rep h₀ h μ v (.obj n)) : ∃ a, v = .ref a ∧ μ[n]? = some a := by
  cases r with
  | obj e => exact ⟨_, rfl, e⟩
theorem Stt.at (S : Stt prog w h₀ μ σ s) {n : Nat} {a : Addr} {c : Cell} (e : μ[n]? = some a) (q : σ[n]? = some c) : CellAt prog w h₀ s.heap μ a c := by
  obtain ⟨a', e', x⟩ := S.cell n c q
  rw [e] at e'; cases e'; exact x
theorem Stt.atL (S : Stt prog w h₀ μ σ s) {n : Nat} {a : Addr} {Vs : List V} (e : μ[n]? = some a) (q : σ[n]? = some (.list Vs)) : ∃ vs, s.heap.IsList a vs.toArray ∧ RepL h₀ s.heap μ vs Vs := by
  obtain ⟨vs, p, r⟩ := S.at e q
  exact ⟨vs, p.isList, r⟩
theorem Stt.noSys (S : Stt prog w h₀ μ σ s) (hsys : ∃ o, h₀.get? sysModules = some o) {a : Addr} (ha : a ∈ μ) : (a == sysModules) = false := by
  obtain ⟨o, e⟩ := hsys
  have := S.out a ha
  simp only [beq_eq_false_iff_ne, ne_eq]
  intro q; rw [q] at this; rw [this] at e; cases e
inductive NeRel (prog : Program) (w : World) (s : Shared) (x y : List Int) (xs ys : Array Value) (rest : List (Value × Value)) (r : Option PySem.Fin) (s' : Shared) : Prop
  | mk : r = none → s' = s → (x' y' : List Int) → (xs' ys' : List Value) → rest = List.zip xs' ys' → ItemsAre (intKind prog w) x' xs' → ItemsAre (intKind prog w) y' ys' → decide (x' = y') = decide (x = y) → (xs'.length == ys'.length) = (xs.size == ys.size) → NeRel prog w s x y xs ys rest r s'
inductive GtRel (prog : Program) (w : World) (s : Shared) (x y : List Int) (xs ys : Array Value) (rest : List (Value × Value)) (r : Option PySem.Fin) (s' : Shared) : Prop
  | mk : r = none → s' = s → (x' y' : List Int) → (xs' ys' : List Value) → rest = List.zip xs' ys' → ItemsAre (intKind prog w) x' xs' → ItemsAre (intKind prog w) y' ys' → lexLt y' x' = lexLt y x → (decide (xs'.length > ys'.length)) = decide (xs.size > ys.size) → GtRel prog w s x y xs ys rest r s'
/-- tuples of ints compared -/
theorem tup_ne {x y : List Int} {a b : Addr} {Q : Value → Shared → Prop} (hu : A.units < cLine) (hx : (tk prog w).is s.heap x a) (hy : (tk prog w).is s.heap y b) (h : Q (.bool (!decide (x = y))) s) :
    wpAny (model prog w) A (richCompare .NotEq (.ref a) (.ref b)) Q E s := by
  have hx' : IsTupleKey (intKind prog w) s.heap x a := hx
  have hy' : IsTupleKey (intKind prog w) s.heap y b := hy
  refine wpAny_richCompare_same_room (op := .NotEq) hx'.typeIs hy'.typeIs F.slot_tuple_ne (wpAny_call_entry F.slot_tuple_ne hx'.typeIs F.entry_tuple_ne ?_ (F.args_tuple_ne_2 _ _)) hu
  have hTb := hy'.typeIs
  obtain ⟨oa, xs, na, hoa, _, hda, hia⟩ := hx'
  obtain ⟨ob, ys, nb, hob, _, hdb, hib⟩ := hy'
  show wpAny _ _ (isInstance (.ref b) (.type "tuple") >>= _) _ _ s
  refine wpAny_bind (wpAny_isInstance hTb isSubtype_tuple_tuple ?_)
  simp only [Bool.not_true, Bool.false_eq_true, if_false]
  refine wpAny_bind (wpAny_tupleItemsOf hoa hda ?_)
  refine wpAny_bind (wpAny_tupleItemsOf hob hdb ?_)
  refine wpAny_bind ?_
  refine wpAny_forIn_list _
    (fun rest r s' => NeRel prog w s x y xs ys rest r.1 s')
    _ ?_ ?_ _ _ ⟨rfl, rfl, x, y, xs.toList, ys.toList, rfl, hia, hib, rfl, by simp⟩
  · rintro ⟨u, v⟩ rest r s' ⟨hr, rfl, x', y', xs', ys', hz, hx', hy', hdec, hlen⟩
    cases hx' with
    | nil => simp at hz
    | @cons k1 u' x'' xs'' h1 hx'' =>
      cases hy' with
      | nil => simp at hz
      | @cons k2 v' y'' ys'' h2 hy'' =>
        simp only [List.zip_cons_cons, List.cons.injEq, Prod.mk.injEq] at hz
        obtain ⟨⟨rfl, rfl⟩, rfl⟩ := hz
        refine wpAny_bind ((intKind prog w).eqBool (a := k1) (b := k2) h1 h2 ?_)
        by_cases hk : k1 = k2
        · subst hk
          rw [decide_eq_true rfl]
          simp only [Bool.not_true, Bool.false_eq_true, if_false]
          refine wpAny_pure ⟨rfl, rfl, x'', y'', xs'', ys'', rfl, hx'', hy'', ?_, by simpa using hlen⟩
          rw [← hdec]
          by_cases hxy : x'' = y'' <;> simp [hxy]
        · rw [decide_eq_false hk]
          simp only [Bool.not_false, if_true]
          have hf : decide (x = y) = false := by rw [← hdec]; simp [hk]
          rw [hf] at h
          exact wpAny_bind (wpAny_pure (wpAny_pure (wpAny_pure ⟨_, rfl, (fun e => nomatch e), h⟩)))
  · rintro ⟨r1, r2⟩ s' ⟨hr, rfl, x', y', xs', ys', hz, hx', hy', hdec, hlen⟩
    simp only at hr
    subst hr
    have hfin : (xs.size == ys.size) = decide (x = y) := by
      rw [← hdec, ← hlen]
      cases hx' with
      | nil => cases hy' <;> simp
      | cons _ _ =>
        cases hy' with
        | nil => simp
        | cons _ _ => simp at hz
    refine wpAny_pure ⟨.bool (!(xs.size == ys.size)), rfl, (fun e => nomatch e), ?_⟩
    rw [hfin]; exact h
theorem tup_eq {x y : List Int} {a b : Addr} {Q : Value → Shared → Prop} (hu : A.units < cLine) (hx : (tk prog w).is s.heap x a) (hy : (tk prog w).is s.heap y b) (h : Q (.bool (decide (x = y))) s) :
    wpAny (model prog w) A (richCompare .Eq (.ref a) (.ref b)) Q E s := by
  have hx' : IsTupleKey (intKind prog w) s.heap x a := hx
  have hy' : IsTupleKey (intKind prog w) s.heap y b := hy
  exact wpAny_richCompare_same_room (op := .Eq) hx'.typeIs hy'.typeIs F.slot_tuple_eq (wpAny_call_entry F.slot_tuple_eq hx'.typeIs F.entry_tuple_eq (tuple_eq_tree hx' hy' ⟨_, rfl, (fun e => nomatch e), h⟩) (F.args_tuple_eq_2 _ _)) hu
theorem tup_gt {x y : List Int} {a b : Addr} {Q : Value → Shared → Prop} (hu : A.units < cLine) (hx : (tk prog w).is s.heap x a) (hy : (tk prog w).is s.heap y b) (h : Q (.bool (lexLt y x)) s) :
    wpAny (model prog w) A (richCompare .Gt (.ref a) (.ref b)) Q E s := by
  have hx' : IsTupleKey (intKind prog w) s.heap x a := hx
  have hy' : IsTupleKey (intKind prog w) s.heap y b := hy
  refine wpAny_richCompare_same_room (op := .Gt) hx'.typeIs hy'.typeIs F.slot_tuple_gt (wpAny_call_entry F.slot_tuple_gt hx'.typeIs F.entry_tuple_gt ?_ (F.args_tuple_gt_2 _ _)) hu
  have hTb := hy'.typeIs
  obtain ⟨oa, xs, na, hoa, _, hda, hia⟩ := hx'
  obtain ⟨ob, ys, nb, hob, _, hdb, hib⟩ := hy'
  show wpAny _ _ (isInstance (.ref b) (.type "tuple") >>= _) _ _ s
  refine wpAny_bind (wpAny_isInstance hTb isSubtype_tuple_tuple ?_)
  simp only [Bool.not_true, Bool.false_eq_true, if_false]
  refine wpAny_bind (wpAny_tupleItemsOf hoa hda ?_)
  refine wpAny_bind (wpAny_tupleItemsOf hob hdb ?_)
  refine wpAny_bind ?_
  refine wpAny_forIn_list _
    (fun rest r s' => GtRel prog w s x y xs ys rest r.1 s')
    _ ?_ ?_ _ _ ⟨rfl, rfl, x, y, xs.toList, ys.toList, rfl, hia, hib, rfl, by simp⟩
  · rintro ⟨u, v⟩ rest r s' ⟨hr, rfl, x', y', xs', ys', hz, hx', hy', hdec, hlen⟩
    cases hx' with
    | nil => simp at hz
    | @cons k1 u' x'' xs'' h1 hx'' =>
      cases hy' with
      | nil => simp at hz
      | @cons k2 v' y'' ys'' h2 hy'' =>
        simp only [List.zip_cons_cons, List.cons.injEq, Prod.mk.injEq] at hz
        obtain ⟨⟨rfl, rfl⟩, rfl⟩ := hz
        refine wpAny_bind ((intKind prog w).eqBool (a := k1) (b := k2) h1 h2 ?_)
        by_cases hk : k1 = k2
        · subst hk
          rw [decide_eq_true rfl]
          simp only [Bool.not_true, Bool.false_eq_true, if_false]
          refine wpAny_pure ⟨rfl, rfl, x'', y'', xs'', ys'', rfl, hx'', hy'', ?_, by simpa using hlen⟩
          rw [← hdec]; simp [lexLt]
        · rw [decide_eq_false hk]
          simp only [Bool.not_false, if_true]
          obtain ⟨t1, rfl⟩ := Value.isInt_shape h1
          obtain ⟨t2, rfl⟩ := Value.isInt_shape h2
          have hf : lexLt y x = decide (k1 > k2) := by
            have hk' : ¬ k2 = k1 := fun e => hk e.symm
            rw [← hdec]; simp [lexLt, hk']
          rw [hf] at h
          refine wpAny_bind (wpAny_rule (wpAny_bind ?_))
          have hc : wpAny (model prog w) A.in1 (compareOp .Gt (.int k1 t1) (.int k2 t2)) (fun v s'' => v = .bool (decide (k1 > k2)) ∧ s'' = s') E s' := PyProof.Rows.gt_int ⟨rfl, rfl⟩
          refine wpAny_mono hc (fun v s'' hv => ?_) fun _ _ e => e
          obtain ⟨rfl, rfl⟩ := hv
          exact wpAny_bind (wpAny_pure (wpAny_pure (wpAny_pure ⟨_, rfl, (fun e => nomatch e), h⟩)))
  · rintro ⟨r1, r2⟩ s' ⟨hr, rfl, x', y', xs', ys', hz, hx', hy', hdec, hlen⟩
    simp only at hr
    subst hr
    have hfin : decide (xs.size > ys.size) = lexLt y x := by
      rw [← hdec, ← hlen]
      cases hx' with
      | nil => cases hy' <;> simp [lexLt]
      | cons _ _ =>
        cases hy' with
        | nil => simp [lexLt]
        | cons _ _ => simp at hz
    refine wpAny_pure ⟨.bool (decide (xs.size > ys.size)), rfl, (fun e => nomatch e), ?_⟩
    rw [hfin]; exact h
end Mine
namespace Mine
open PySem PySem.Calls PyProof.Rows
variable {prog : Program} {w : World} {A : Around} {E : Value → Shared → Prop} {s : Shared} {d a : Addr} {xs : List (List Int × Addr × Value)} {ep : Nat} {k : List Int} {h₀ : Heap} {μ : List Addr} {σ σ' : Store} {N : Nat}
theorem Ents.nil_inv {h : Heap} {es : List (List Int × V)} (x : Ents h₀ h μ [] es) : es = [] := by
  have := x.keys
  cases es with
  | nil => rfl
  | cons e r => simp at this
theorem Ents.cons_inv {h : Heap} {x : List Int × Addr × Value} {es : List (List Int × V)} (y : Ents h₀ h μ (x :: xs) es) : ∃ W r, es = (x.1, W) :: r ∧ Rep h₀ h μ x.2.2 W ∧ Ents h₀ h μ xs r := by
  have hk := y.keys
  cases es with
  | nil => simp at hk
  | cons e r =>
    simp only [List.map_cons, List.cons.injEq] at hk
    refine ⟨e.2, r, by rw [hk.1], y.vals 0 x e rfl rfl, hk.2, fun i a b e1 e2 => y.vals (i + 1) a b (by simpa using e1) (by simpa using e2)⟩
theorem Ents.nil {h : Heap} : Ents h₀ h μ [] [] := ⟨rfl, fun _ _ _ e => by simp at e⟩
theorem Ents.cons {h : Heap} {x : List Int × Addr × Value} {W : V} {es : List (List Int × V)} (r : Rep h₀ h μ x.2.2 W) (y : Ents h₀ h μ xs es) : Ents h₀ h μ (x :: xs) ((x.1, W) :: es) :=
  ⟨by simp [y.keys], fun i a b e1 e2 => by
    cases i with
    | zero => simp at e1 e2; subst e1; subst e2; exact r
    | succ i => exact y.vals i a b (by simpa using e1) (by simpa using e2)⟩
theorem Ents.len {h : Heap} {es : List (List Int × V)} (y : Ents h₀ h μ xs es) : xs.length = es.length := by have := congrArg List.length y.keys; simpa using this
theorem Ents.get {h : Heap} : ∀ {xs : List (List Int × Addr × Value)} {es : List (List Int × V)}, Ents h₀ h μ xs es → (atKey xs k = none ∧ dget es k = none) ∨ ∃ p W, atKey xs k = some p ∧ dget es k = some W ∧ Rep h₀ h μ p.2 W
  | [], es, y => by rw [y.nil_inv]; exact .inl ⟨rfl, rfl⟩
  | x :: xs, es, y => by
    obtain ⟨W, r, rfl, hr, y'⟩ := y.cons_inv
    by_cases q : x.1 = k
    · exact .inr ⟨x.2, W, by simp [atKey, q], by simp [dget, q], hr⟩
    · have e1 : atKey (x :: xs) k = atKey xs k := by simp [atKey, q]
      have e2 : dget ((x.1, W) :: r) k = dget r k := by simp [dget, q]
      rw [e1, e2]; exact Ents.get y'
theorem Ents.append {h : Heap} {ys : List (List Int × Addr × Value)} {es fs : List (List Int × V)} (a : Ents h₀ h μ xs es) (b : Ents h₀ h μ ys fs) : Ents h₀ h μ (xs ++ ys) (es ++ fs) := by
  refine ⟨by simp [a.keys, b.keys], fun i x e e1 e2 => ?_⟩
  by_cases q : i < xs.length
  · rw [List.getElem?_append_left q] at e1
    rw [List.getElem?_append_left (a.len ▸ q)] at e2
    exact a.vals i x e e1 e2
  · rw [List.getElem?_append_right (by exact Nat.le_of_not_lt q)] at e1
    rw [List.getElem?_append_right (by have := a.len; exact ar22 q this)] at e2
    exact b.vals _ x e e1 (a.len ▸ e2)
theorem Ents.mapPut {h : Heap} {v : Value} {W : V} (r : Rep h₀ h μ v W) : ∀ {xs : List (List Int × Addr × Value)} {es : List (List Int × V)}, Ents h₀ h μ xs es → Ents h₀ h μ (xs.map (putAt k v)) (es.map fun e => if e.1 = k then (e.1, W) else e)
  | [], es, y => by rw [y.nil_inv]; exact .nil
  | x :: xs, es, y => by
    obtain ⟨W', r', rfl, hr, y'⟩ := y.cons_inv
    have ih := Ents.mapPut r y'
    rw [List.map_cons, List.map_cons]
    by_cases q : x.1 = k
    · have e : putAt k v x = (x.1, x.2.1, v) := by unfold putAt; rw [if_pos q]
      rw [e]
      simp only [q, if_true]
      exact Ents.cons (x := (k, x.2.1, v)) r ih
    · have e : putAt k v x = x := by unfold putAt; rw [if_neg q]
      rw [e]
      simp only [q, if_false]
      exact Ents.cons hr ih
theorem Ents.put {h : Heap} {v : Value} {W : V} {es : List (List Int × V)} (r : Rep h₀ h μ v W) (y : Ents h₀ h μ xs es) : Ents h₀ h μ (storedH xs k a v) (dput es k W) := by
  rcases y.get (k := k) with ⟨e1, e2⟩ | ⟨p, W', e1, e2, _⟩
  · rw [storedH_new e1]
    unfold dput; rw [e2]
    exact y.append (Ents.cons (x := (k, a, v)) r .nil)
  · rw [storedH_old e1]
    unfold dput; rw [e2]
    exact y.mapPut r
theorem Ents.drop {h : Heap} {k : List Int} : ∀ {xs : List (List Int × Addr × Value)} {es : List (List Int × V)}, Ents h₀ h μ xs es → Ents h₀ h μ (dropAt xs k) (ddel es k)
  | [], es, y => by rw [y.nil_inv]; exact .nil
  | x :: xs, es, y => by
    obtain ⟨W', r', rfl, hr, y'⟩ := y.cons_inv
    have ih := Ents.drop (k := k) y'
    unfold dropAt ddel at ih ⊢
    by_cases q : x.1 = k
    · rw [List.filter_cons, List.filter_cons]; simpa [q] using ih
    · rw [List.filter_cons, List.filter_cons]
      simp only [q, decide_false, Bool.not_false, if_true]
      exact Ents.cons hr ih
theorem cellPut {h' : Heap} {v : Value} {W : V} {es : List (List Int × V)} (r : Rep h₀ h' μ v W) (y : Ents h₀ h' μ xs es) (x : DictE prog w h' d (storedH xs k a v) (match atKey xs k with | some _ => ep | none => ep + 1)) :
    CellAt prog w h₀ h' μ d (setD es ep k W) := by
  rcases y.get (k := k) with ⟨e1, e2⟩ | ⟨p, W', e1, e2, _⟩
  · rw [e1] at x
    unfold setD; rw [e2]
    exact ⟨_, x, y.put r⟩
  · rw [e1] at x
    unfold setD; rw [e2]
    exact ⟨_, x, y.put r⟩
theorem Ents.moved {h h' : Heap} {es : List (List Int × V)} (y : Ents h₀ h μ xs es) (ht : ∀ a items, h.IsTuple a items → h'.IsTuple a items) : Ents h₀ h' μ xs es := by
  have := y.grow (ν := []) ht
  rwa [List.append_nil] at this
theorem Rep.moved {h h' : Heap} {v : Value} {W : V} (y : Rep h₀ h μ v W) (ht : ∀ a items, h.IsTuple a items → h'.IsTuple a items) : Rep h₀ h' μ v W := by
  have := y.grow (ν := []) ht
  rwa [List.append_nil] at this
theorem RepL.moved {h h' : Heap} {vs : List Value} {Vs : List V} (y : RepL h₀ h μ vs Vs) (ht : ∀ a items, h.IsTuple a items → h'.IsTuple a items) : RepL h₀ h' μ vs Vs := by
  have := y.grow (ν := []) ht
  rwa [List.append_nil] at this
theorem Stt.tupBut (S : Stt prog w h₀ μ σ s) {a : Addr} (ha : a ∈ μ) {h' : Heap} (hs : Heap.SameBut a s.heap h') : ∀ b items, s.heap.IsTuple b items → h'.IsTuple b items := fun b items t => by
  obtain ⟨o, g1, r⟩ := id t
  exact ⟨o, (hs.2 b fun q => S.notTup t (q ▸ ha)).trans g1, r⟩
theorem intBits_big {x : Int} (h : x.natAbs < big) : Builtin.Int.intBits x ≤ 64 := intBits_le_64 (by unfold big at h; exact ar107 h) (by unfold big at h; exact ar108 h)
theorem noPy {x y : Int} (h : y.natAbs < big) : Builtin.divisionGoesByPylong x y = false := by
  refine PyProof.noPylong_of_log2 ?_
  by_cases h0 : y.natAbs = 0
  · rw [h0]; decide
  · have : y.natAbs.log2 < 60 := (Nat.log2_lt h0).mpr h
    exact Nat.lt_add_left _ this
theorem binop_ok {op : Operator} {x y : V} {V' : V} {u v : Value} (S : Stt prog w h₀ μ σ s) (ru : Rep h₀ s.heap μ u x) (rv : Rep h₀ s.heap μ v y) (e : binop op x y σ = some (V', σ')) :
    wpAny (model prog w) A (binaryOp op u v) (PV prog w h₀ μ s σ' V') noE s := by
  cases x with
  | int x => cases y with
    | int y =>
      delta binop at e; dsimp only at e
      obtain ⟨t1, rfl⟩ := ru.int_inv
      obtain ⟨t2, rfl⟩ := rv.int_inv
      split at e
      · cases e; exact PyProof.Rows.add_int (PV.toks S (.int _ _))
      · cases e; exact PyProof.Rows.sub_int' (PV.toks S (.int _ _))
      · split at e
        · rename_i c; cases e
          exact PyProof.Rows.mul_int (PV.toks S (.int _ _)) (.of_left (intBits_big c.1))
        · first | exact no_some e | cases e
      · split at e
        · rename_i c; cases e
          exact PyProof.Rows.floordiv_int c.1 (PV.toks S (.int _ _)) (.inl (noPy c.2.2))
        · first | exact no_some e | cases e
      · split at e
        · rename_i c; cases e
          exact PyProof.Rows.mod_int' c (PV.toks S (.int _ _))
        · first | exact no_some e | cases e
      · split at e
        · rename_i c; cases e
          refine PyProof.Rows.pow_int c.1 ?_ (PV.toks S (.int _ _))
          have h1 := intBits_big c.2.2
          have h2 : ((Builtin.Int.intBits _ : Nat) : Int) ≤ 64 := Int.ofNat_le.mpr h1
          have h3 := Int.mul_le_mul h2 c.2.1 c.1 (by decide)
          exact Int.le_trans h3 (by decide)
        · first | exact no_some e | cases e
      · first | exact no_some e | cases e
    | _ => exact no_some e
  | obj n => cases y with
    | obj m =>
      delta binop at e; dsimp only at e
      split at e
      · rename_i vs1 vs2 q1 q2
        obtain ⟨a1, rfl, m1⟩ := ru.obj_inv
        obtain ⟨a2, rfl, m2⟩ := rv.obj_inv
        split at e
        · rename_i hl
          cases e
          obtain ⟨w1, l1, r1⟩ := S.atL m1 q1
          obtain ⟨w2, l2, r2⟩ := S.atL m2 q2
          obtain ⟨⟨cls, dd, data, sl⟩, ho, hc, n, hd⟩ := id l1
          obtain ⟨⟨cls2, dd2, data2, sl2⟩, ho2, hc2, n2, hd2⟩ := id l2
          simp only at hc hd hc2 hd2
          subst hc hd hc2 hd2
          have e : w1.toArray ++ w2.toArray = (w1 ++ w2).toArray := by simp
          refine concat_meets ⟨_, ho, rfl⟩ ⟨_, ho2, rfl⟩ noFill_list_add seq_list_add PySem.F.slot_list_add PySem.F.entry_list_add (PySem.F.args_list_add_2 _ _)
            (list_addW a1 a2 w1.toArray w2.toArray n n2 dd dd2 sl sl2 (by have h1 := r1.len; have h2 := r2.len; rw [sizeLine_eq]; simp; unfold lim at hl; exact ar121 hl h1 h2)) ⟨ho, ho2, ?_⟩
          rw [e]
          have hg : (s.heap.push { cls := .type "list", data := .seq (w1 ++ w2).toArray }).PlainList s.heap.objs.size (w1 ++ w2).toArray := ⟨_, Heap.get?_push_size _ rfl⟩
          obtain ⟨S', E'⟩ := S.alloc (t := s.toks) (o := { cls := .type "list", data := .seq (w1 ++ w2).toArray }) (c := .list (vs1 ++ vs2))
            ⟨w1 ++ w2, hg, (r1.append r2).grow fun b items ⟨o, h1, r⟩ => ⟨o, Heap.get?_push_of_some _ h1, r⟩⟩
          exact ⟨_, S', .obj (by rw [← S.len]; simp), E'⟩
        · first | exact no_some e | cases e
      · first | exact no_some e | cases e
    | _ => exact no_some e
  | _ => exact no_some e
theorem richCompare_ofCmp {op : CmpOp} {u v : Value} {Q : Value → Shared → Prop} (h : wpAny (model prog w) A (richCompare op u v) Q E s) (ho : op = .Eq ∨ op = .NotEq ∨ op = .Gt) : wpAny (model prog w) A (compareOp op u v) Q E s := by
  rcases ho with rfl | rfl | rfl <;> exact h
theorem cmp_ok (R : Rm A (N + 1)) (hsys : ∃ o, h₀.get? sysModules = some o) {op : CmpOp} {x y : V} {c : Bool} {u v : Value} (S : Stt prog w h₀ μ σ s) (ru : Rep h₀ s.heap μ u x) (rv : Rep h₀ s.heap μ v y) (e : cmp op x y σ = some c) :
    wpAny (model prog w) A (compareOp op u v) (fun r s' => r = .bool c ∧ ∃ t, s' = { s with toks := t }) noE s := by
  have here : ∀ b : Bool, b = c → (Value.bool b = .bool c ∧ ∃ t, s = { s with toks := t }) := fun b q => ⟨by rw [q], s.toks, rfl⟩
  cases y with
  | none =>
    replace e : (match (generalizing := false) op with
      | .Is => some (isNoneV x)
      | .IsNot => some (!isNoneV x)
      | _ => Option.none) = some c := by cases x <;> exact e
    cases rv
    split at e
    · first | exact no_some e | cases e
      cases ru <;> first | exact wpAny_is_plain rfl (here _ rfl) | exact wpAny_is_plain rfl ⟨by congr 1, s.toks, rfl⟩
    · first | exact no_some e | cases e
      cases ru <;> first | exact wpAny_isNot_plain rfl (here _ rfl) | exact wpAny_isNot_plain rfl ⟨by congr 1, s.toks, rfl⟩
    · first | exact no_some e | cases e
  | int y => cases x with
    | int x =>
      delta cmp at e; dsimp only at e
      obtain ⟨t1, rfl⟩ := ru.int_inv
      obtain ⟨t2, rfl⟩ := rv.int_inv
      split at e
      · cases e; exact PyProof.Rows.eq_int (here _ rfl)
      · cases e; exact PyProof.Rows.ne_int (here _ rfl)
      · cases e; exact PyProof.Rows.lt_int (here _ rfl)
      · cases e; exact PyProof.Rows.le_int (here _ rfl)
      · cases e; exact PyProof.Rows.gt_int (here _ rfl)
      · cases e; exact PyProof.Rows.ge_int (here _ rfl)
      · first | exact no_some e | cases e
    | _ => exact no_some e
  | str y => cases x with
    | str x =>
      delta cmp at e; dsimp only at e
      cases ru; cases rv
      split at e
      · cases e; exact PyProof.Rows.eq_str (here _ rfl)
      · first | exact no_some e | cases e
    | _ => exact no_some e
  | tup y => cases x with
    | tup x =>
      delta cmp at e; dsimp only at e
      split at e
      · rename_i ks ls q1 q2
        rw [intsOf_at q1] at ru
        rw [intsOf_at q2] at rv
        obtain ⟨a1, rfl, k1⟩ := ru.key (prog := prog) (w := w)
        obtain ⟨a2, rfl, k2⟩ := rv.key (prog := prog) (w := w)
        split at e
        · cases e; exact richCompare_ofCmp (tup_eq R.u k1 k2 (here _ rfl)) (.inl rfl)
        · cases e; exact richCompare_ofCmp (tup_ne R.u k1 k2 (here _ rfl)) (.inr (.inl rfl))
        · cases e; exact richCompare_ofCmp (tup_gt R.u k1 k2 (here _ rfl)) (.inr (.inr rfl))
        · first | exact no_some e | cases e
      · first | exact no_some e | cases e
    | _ => exact no_some e
  | obj y => cases x with
    | tup x =>
      delta cmp at e; dsimp only at e
      split at e
      · rename_i ks es ep q1 q2
        cases e
        rw [intsOf_at q1] at ru
        obtain ⟨a1, rfl, k1⟩ := ru.key (prog := prog) (w := w)
        obtain ⟨a2, rfl, m2⟩ := rv.obj_inv
        obtain ⟨xs, x, en⟩ := S.at m2 q2
        refine wpAny_in_heap (knd := tk prog w) R.u1 k1 (S.noSys hsys (List.mem_of_getElem? m2)) x.ofH ?_
        refine ⟨?_, _, rfl⟩
        rcases en.get (k := ks) with ⟨e1, e2⟩ | ⟨p, W', e1, e2, _⟩ <;> rw [e1, e2] <;> rfl
      · first | exact no_some e | cases e
    | obj x =>
      delta cmp at e; dsimp only at e
      split at e
      · rename_i _ _ _ vs1 q1 q2
        cases e
        obtain ⟨a1, rfl, m1⟩ := ru.obj_inv
        obtain ⟨a2, rfl, m2⟩ := rv.obj_inv
        obtain ⟨w1, l1, r1⟩ := S.atL m1 q1
        obtain ⟨w2, l2, r2⟩ := S.atL m2 q2
        have hw2 : w2 = [] := List.eq_nil_of_length_eq_zero (by simpa using r2.len)
        subst hw2
        refine richCompare_ofCmp ?_ (.inr (.inl rfl))
        cases vs1 with
        | nil =>
          have hw1 : w1 = [] := List.eq_nil_of_length_eq_zero (by simpa using r1.len)
          subst hw1
          exact PySem.SeqAt.RcNeAt.lists (e := fun _ => true) l1 l2 rfl R.u (fun j h1 _ => by simp at h1) _ _ _ _ (here _ rfl)
        | cons v0 r0 =>
          refine PySem.SeqAt.RcNeAt.lists_lengths l1 l2 ?_ R.u _ _ _ _ (here _ rfl)
          have := r1.len
          simp only [List.size_toArray, this]; simp
      · first | exact no_some e | cases e
    | _ => exact no_some e
  | _ => cases x <;> exact no_some e
theorem seqIdx_of {i : Int} {n : Nat} (h0 : 0 ≤ i) (hn : i.toNat < n) : seqIndex? i n = some i.toNat := by
  simp only [seqIndex?, if_neg (show ¬ i < 0 by exact Int.not_lt_of_ge h0)]
  exact if_pos (by rw [Bool.and_eq_true, decide_eq_true_eq, decide_eq_true_eq]; exact ar110 h0 hn)
theorem seqIdx_neg {i : Int} {n : Nat} (h0 : ¬ 0 ≤ i) (hn : -(n : Int) ≤ i) : seqIndex? i n = some (i + n).toNat := by
  simp only [seqIndex?, if_pos (show i < 0 by exact Int.lt_of_not_ge h0)]
  exact if_pos (by rw [Bool.and_eq_true, decide_eq_true_eq, decide_eq_true_eq]; exact ar111 h0 hn)
theorem getitem_ok (R : Rm A (N + 1)) {x y V' : V} {u v : Value} (S : Stt prog w h₀ μ σ s) (ru : Rep h₀ s.heap μ u x) (rv : Rep h₀ s.heap μ v y) (e : getitem x y σ = some V') :
    wpAny (model prog w) A (getItem u v) (fun r s' => Rep h₀ s.heap μ r V' ∧ ∃ t, s' = { s with toks := t }) noE s := by
  cases x with
  | tup vs => cases y with
    | int i =>
      delta getitem at e; dsimp only at e
      obtain ⟨t2, rfl⟩ := rv.int_inv
      obtain ⟨a, ws, rfl, t, l⟩ := ru.tup_inv
      unfold at? at e
      split at e
      · rename_i h0
        split at e
        · rename_i h1
          obtain ⟨r, e1, e2⟩ := l.exists e
          have hlt := (List.getElem?_eq_some_iff.mp e1).1
          exact PyProof.Rows.getItem_tuple (items := ws.toArray) t (by exact ar112 h0) (by exact ar33 h1) (seqIdx_of h0 (by simpa using hlt)) (by simpa using e1) ⟨e2, s.toks, rfl⟩
        · first | exact no_some e | cases e
      · rename_i h0
        split at e
        · rename_i h1
          obtain ⟨r, e1, e2⟩ := l.exists e
          have hl := l.len
          rw [← hl] at e1 h1
          have hlim := h1.2
          unfold lim at hlim
          exact PyProof.Rows.getItem_tuple (items := ws.toArray) t (by exact ar34 h1 hlim) (by exact ar115 h0) (seqIdx_neg h0 (by simpa using h1.1)) (by simpa using e1) ⟨e2, s.toks, rfl⟩
        · first | exact no_some e | cases e
    | _ => exact no_some e
  | obj n => cases y with
    | int i =>
      delta getitem at e; dsimp only at e
      split at e
      · rename_i vs q
        obtain ⟨t2, rfl⟩ := rv.int_inv
        obtain ⟨a, rfl, m⟩ := ru.obj_inv
        obtain ⟨ws, t, l⟩ := S.atL m q
        unfold at? at e
        split at e
        · rename_i h0
          split at e
          · rename_i h1
            obtain ⟨r, e1, e2⟩ := l.exists e
            exact wpAny_getItem_list t h0 (by exact ar33 h1) (by simpa using e1) ⟨e2, s.toks, rfl⟩
          · first | exact no_some e | cases e
        · rename_i h0
          split at e
          · rename_i h1
            obtain ⟨r, e1, e2⟩ := l.exists e
            have hl := l.len
            rw [← hl] at e1 h1
            have hlim := h1.2
            unfold lim at hlim
            exact wpAny_getItem_list_neg t (by exact Int.lt_of_not_ge h0) (by simpa using h1.1) (by exact ar34 h1 hlim) (by simpa using e1) ⟨e2, s.toks, rfl⟩
          · first | exact no_some e | cases e
      · first | exact no_some e | cases e
    | tup ks =>
      delta getitem at e; dsimp only at e
      split at e
      · rename_i es ep kk q1 q2
        rw [intsOf_at q2] at rv
        obtain ⟨a1, rfl, k1⟩ := rv.key (prog := prog) (w := w)
        obtain ⟨a, rfl, m⟩ := ru.obj_inv
        obtain ⟨xs, x, en⟩ := S.at m q1
        rcases en.get (k := kk) with ⟨e1, e2⟩ | ⟨p, W', e1, e2, rr⟩
        · rw [e2] at e; cases e
        · rw [e2] at e; cases e
          exact wpAny_getItem_heap (knd := tk prog w) R.u1 k1 x.ofH e1 ⟨rr, _, rfl⟩
      · first | exact no_some e | cases e
    | _ => exact no_some e
  | _ => exact no_some e
theorem setItem_plain {l : Addr} {items : Array Value} {k : Int} {t : Tok} {v : Value} {Q : Unit → Shared → Prop} (hl : s.heap.PlainList l items) (h0 : 0 ≤ k) (hfit : k < 2 ^ 63) (hn : k < items.size)
    (hQ : ∀ h', h'.PlainList l (items.setIfInBounds k.toNat v) → Heap.SameBut l s.heap h' → Q () { s with heap := h' }) : wpAny (model prog w) A (setItem (.ref l) (.int k t) v) Q E s := by
  obtain ⟨ne, ho⟩ := id hl
  have hT := hl.isList.typeIs (s := s)
  unfold setItem
  refine wpAny_holding ?_
  refine wpAny_bind (wpAny_sequenceKey hT (by decide) ?_)
  refine wpAny_bind (wpAny_callSpecial?_slot (name := Str.ofString "__setitem__") hT slot_list_setitem
    (wpAny_call_entry slot_list_setitem hT entry_list_setitem ?_ (args_list_setitem _ _ _)))
  show wpAny _ _ (Builtin.List.listSubscript? (.int k t) >>= _) _ _ s
  refine wpAny_bind (wpAny_listSubscript_int (fitsIndex_of h0 hfit) ?_)
  clear hfit
  obtain ⟨j, rfl⟩ := Int.eq_ofNat_of_zero_le h0
  have hj : j < items.size := by exact ar116 hn
  have hx' : items[j]? = some items[j] := Array.getElem?_eq_getElem hj
  show wpAny _ _ ((seqItemAt l j >>= fun r => pure (r.map (j, ·))) >>= _) _ _ s
  refine wpAny_bind (wpAny_bind (wpAny_seqItemAt ho rfl (wpAny_pure ?_)))
  rw [hx']
  show wpAny _ _ (setSeqItemAt l j v >>= _) _ _ s
  have em : Obj.mapSeq (·.setIfInBounds j v) { cls := .type "list", data := .seq items ne } = { cls := .type "list", data := .seq (items.setIfInBounds j v) ne } := by simp [Obj.mapSeq]
  have hfin : (s.heap.update l (Obj.mapSeq (·.setIfInBounds j v))).PlainList l (items.setIfInBounds j v) := ⟨ne, by rw [Heap.get?_update_self _ ho (by rw [em]; rfl), em]⟩
  refine wpAny_bind (wpAny_setSeqItemAt ho rfl ?_)
  first
    | exact wpAny_bind (wpAny_pure (wpAny_pure ⟨.none, rfl, wpAny_pure (hQ _ hfin (Heap.SameBut.update ..))⟩))
    | exact wpAny_pure ⟨.none, rfl, wpAny_pure (hQ _ hfin (Heap.SameBut.update ..))⟩
theorem setitem_ok (R : Rm A (N + 1)) {x y z : V} {u v r : Value} (S : Stt prog w h₀ μ σ s) (ru : Rep h₀ s.heap μ u x) (rv : Rep h₀ s.heap μ v y) (rz : Rep h₀ s.heap μ r z) (e : setitem x y z σ = some σ') :
    wpAny (model prog w) A (setItem u v r) (PU prog w h₀ μ s σ') noE s := by
  unfold setitem at e
  split at e
  · rename_i n i
    split at e
    · rename_i vs q
      obtain ⟨t2, rfl⟩ := rv.int_inv
      obtain ⟨a, rfl, m⟩ := ru.obj_inv
      obtain ⟨ws, t, l⟩ := S.at m q
      split at e
      · rename_i h1
        cases e
        refine setItem_plain t h1.1 (by exact ar113 h1) (by have := l.len; simp; exact ar114 h1 this) fun h' hl hs => ?_
        have hm := List.mem_of_getElem? m
        have ht := S.tupBut hm hs
        have e3 : ws.toArray.setIfInBounds i.toNat r = (ws.set i.toNat r).toArray := by simp
        rw [e3] at hl
        have hcell : CellAt prog w h₀ h' μ a (.list (vs.set i.toNat z)) := by
          refine ⟨_, hl, by simp [l.len], fun j v' W' e1 e2 => ?_⟩
          rw [List.getElem?_set] at e1 e2
          split at e1
          · rename_i q2
            rw [if_pos q2] at e2
            split at e1
            · split at e2
              · cases e1; cases e2; exact rz.moved ht
              · first | exact no_some e2 | cases e2
            · cases e1
          · rename_i q2
            rw [if_neg q2] at e2
            exact (l.at' j v' W' e1 e2).moved ht
        obtain ⟨S', E'⟩ := S.upd (t := s.toks) m hs hcell
        exact ⟨_, S', E'⟩
      · first | exact no_some e | cases e
    · first | exact no_some e | cases e
  · rename_i n ks
    split at e
    · rename_i es ep kk q1 q2
      rw [intsOf_at q2] at rv
      obtain ⟨a1, rfl, k1⟩ := rv.key (prog := prog) (w := w)
      obtain ⟨a, rfl, m⟩ := ru.obj_inv
      obtain ⟨xs, x, en⟩ := S.at m q1
      split at e
      · rename_i hl
        cases e
        refine setItem_E R.u1 k1 x (by have := en.len; rw [sizeLine_eq]; unfold lim at hl; exact ar2 hl this) fun h' t x' hs => ?_
        have hm := List.mem_of_getElem? m
        have ht := S.tupBut hm hs
        obtain ⟨S', E'⟩ := S.upd (t := t) m hs (cellPut (rz.moved ht) (en.moved ht) x')
        exact ⟨_, S', E'⟩
      · first | exact no_some e | cases e
    · first | exact no_some e | cases e
  · first | exact no_some e | cases e
end Mine
namespace Mine
open PySem PySem.Calls PyProof.Rows
variable {prog : Program} {w : World} {A : Around} {E : Value → Shared → Prop} {s : Shared} {d a : Addr} {xs : List (List Int × Addr × Value)} {ep : Nat} {k : List Int} {h₀ : Heap} {μ : List Addr} {σ σ' : Store} {N : Nat}
theorem RepL.ints {h : Heap} : ∀ {vs : List Value} {ks : List Int}, RepL h₀ h μ vs (ks.map V.int) → IntsAre vs ks
  | [], [], _ => .nil
  | [], _ :: _, r => by have := r.len; simp at this
  | _ :: _, [], r => by have := r.len; simp at this
  | v :: vs, k :: ks, r => by
    obtain ⟨t, rfl⟩ := r.head.int_inv
    exact .cons k t (RepL.ints r.tail)
theorem boolsOf_at : ∀ {Vs : List V} {ks : List Bool}, boolsOf Vs = some ks → Vs = ks.map V.bool
  | [], _, h => by cases h; rfl
  | .bool i :: r, ks, h => by
    unfold boolsOf at h
    split at h
    · rename_i l e; cases h; rw [List.map_cons, boolsOf_at e]
    · first | exact no_some h | cases h
  | .none :: _, _, h => by cases h
  | .int _ :: _, _, h => by cases h
  | .str _ :: _, _, h => by cases h
  | .tup _ :: _, _, h => by cases h
  | .obj _ :: _, _, h => by cases h
  | .ilist _ :: _, _, h => by cases h
theorem RepL.bools {h : Heap} : ∀ {vs : List Value} {ks : List Bool}, RepL h₀ h μ vs (ks.map V.bool) → LSm.BoolsAre vs ks
  | [], [], _ => .nil
  | [], _ :: _, r => by have := r.len; simp at this
  | _ :: _, [], r => by have := r.len; simp at this
  | v :: vs, k :: ks, r => by
    have := r.head
    cases this
    exact .cons k (RepL.bools r.tail)
theorem maxL_spec : ∀ (l : List Int) (x : Int), (maxL x l = x ∨ maxL x l ∈ l) ∧ x ≤ maxL x l ∧ ∀ y ∈ l, y ≤ maxL x l
  | [], x => ⟨.inl rfl, Int.le_refl _, fun _ h => nomatch h⟩
  | y :: r, x => by
    have ih := maxL_spec r (if y > x then y else x)
    unfold maxL
    refine ⟨?_, ?_, fun z hz => ?_⟩
    · rcases ih.1 with e | e
      · by_cases q : y > x
        · rw [if_pos q] at e ⊢; exact .inr (by rw [e]; exact List.mem_cons_self)
        · rw [if_neg q] at e ⊢; exact .inl e
      · exact .inr (List.mem_cons_of_mem _ e)
    · refine Int.le_trans ?_ ih.2.1; split <;> omega
    · rcases List.mem_cons.mp hz with rfl | hz
      · refine Int.le_trans ?_ ih.2.1; split <;> omega
      · exact ih.2.2 z hz
theorem minL_spec : ∀ (l : List Int) (x : Int), (minL x l = x ∨ minL x l ∈ l) ∧ minL x l ≤ x ∧ ∀ y ∈ l, minL x l ≤ y
  | [], x => ⟨.inl rfl, Int.le_refl _, fun _ h => nomatch h⟩
  | y :: r, x => by
    have ih := minL_spec r (if y < x then y else x)
    unfold minL
    refine ⟨?_, ?_, fun z hz => ?_⟩
    · rcases ih.1 with e | e
      · by_cases q : y < x
        · rw [if_pos q] at e ⊢; exact .inr (by rw [e]; exact List.mem_cons_self)
        · rw [if_neg q] at e ⊢; exact .inl e
      · exact .inr (List.mem_cons_of_mem _ e)
    · refine Int.le_trans ih.2.1 ?_; split <;> omega
    · rcases List.mem_cons.mp hz with rfl | hz
      · refine Int.le_trans ih.2.1 ?_; split <;> omega
      · exact ih.2.2 z hz
theorem sumL_eq : ∀ (l : List Int) (x : Int), sumL x l = x + l.sum
  | [], x => by simp [sumL]
  | y :: r, x => by unfold sumL; rw [sumL_eq r, List.sum_cons, Int.add_assoc]
theorem mem_cons_of {x M : Int} {l : List Int} (h : M = x ∨ M ∈ l) : M ∈ x :: l := h.elim (fun e => e ▸ List.mem_cons_self) (List.mem_cons_of_mem _)
noncomputable def biVal : Bi → Value
  | .abs => .builtin "abs" | .len => .builtin "len" | .max => .builtin "max" | .min => .builtin "min" | .sum => .builtin "sum" | .any => .builtin "any"
  | .tuple => .type "tuple" | .dict => .type "dict" | .int => .type "int"
theorem len_E {Q : Value → Shared → Prop} (hd0 : (d == sysModules) = false) (hm : DictE prog w s.heap d xs ep) (hfit : (xs.length : Int) < 2 ^ 63) (h : ∀ t t', Q (.int xs.length t) { s with toks := t' }) :
    wpAny (model prog w) A (call (.builtin "len") [.ref d]) Q E s := by
  obtain ⟨o, es, ho, hc, hd, he, _⟩ := id hm
  have hsz := size_of_entries he
  refine call_function_entry kind_len plain_len entry_len (args_len1 _) ?_
  unfold Builtin.«len»
  refine wpAny_bind (m := oneArg "len" _) (wpAny_pure ?_)
  refine wpAny_bind (m := callSpecial? (.ref d) (Str.ofString "__len__")) (wpAny_callSpecial?_slot (name := Str.ofString "__len__") hm.typeIs F.slot_dict_len
    (wpAny_call_entry F.slot_dict_len hm.typeIs F.entry_dict_len ?_ (F.args_dict_len_1 _)))
  unfold Builtin.«dict.__len__»
  refine wpAny_bind ?_
  unfold Builtin.Dict.dictSlotNone
  refine wpAny_bind (wpAny_notOrdered_dict hm.typeIs ?_)
  show wpAny _ _ (pure (Value.ref d)) _ _ s
  refine wpAny_pure ?_
  show wpAny _ _ (dictSize d >>= _) _ _ s
  refine wpAny_bind ?_
  unfold dictSize
  refine wpAny_bind (wpAny_dictEntries ho hd (wpAny_pure ?_))
  refine wpAny_bind (wpAny_pendingCount_other hd0 ?_)
  refine wpAny_bind (wpAny_mkInt (wpAny_pure ⟨_, rfl, ?_⟩))
  refine wpAny_bind (wpAny_holding (wpAny_pure ?_))
  refine wpAny_bind (wpAny_letGo ?_)
  rw [hsz, Nat.add_zero]
  show wpAny _ _ (if ((xs.length : Nat) : Int) < 0 then _ else _) _ _ _
  rw [if_neg (by exact ar1)]
  show wpAny _ _ (if ((xs.length : Nat) : Int) ≥ 2 ^ 63 then _ else _) _ _ _
  rw [if_neg (by exact ar75 hfit)]
  exact wpAny_bind (wpAny_mkInt (wpAny_pure ⟨_, rfl, h _ _⟩))
theorem any_E {bs : List Bool} {vs : List Value} {l : Addr} {Q : Value → Shared → Prop} (hh : A.handled = none) (hl : s.heap.IsList l vs.toArray) (hb : LSm.BoolsAre vs bs)
    (h : ∀ h' t, (∀ b o, s.heap.get? b = some o → h'.get? b = some o) → Q (.bool (bs.any id)) { s with heap := h', toks := t }) : wpAny (model prog w) A (call (.builtin "any") [.ref l]) Q E s := by
  have hlt : l < s.heap.objs.size := by obtain ⟨_, e, _⟩ := hl; exact Heap.lt_size e
  refine call_any_walk (wpAny_pyIter_list hl ?_)
  refine ⟨s.heap.objs.size, [s.heap.objs.size, l], [s.heap.objs.size], vs.toArray.size, _, _, fun i => (bs[i]?).getD false, rfl, Walks.list (A := A.in1) hh _ l (Nat.ne_of_lt hlt) vs.toArray,
    ⟨⟨_, Heap.get?_push_size _ rfl, rfl, rfl⟩, hl.push _⟩, fun i v s' Q' E' hP hQ => ?_, fun h' tk hk => ?_⟩
  · obtain ⟨b, e, rfl⟩ := hb.get i v (by simpa using hP)
    simp only [e, Option.getD_some] at hQ
    exact wpAny_truthy_bool hQ
  · have e : ((List.range vs.toArray.size).any fun i => (bs[i]?).getD false) = bs.any id := by
      rw [List.size_toArray, hb.length]; exact LSm.range_any bs
    rw [e]
    exact h h' tk (LSm.kept_iter hk)
theorem items_of {vs : List Value} {ns : List Int} (hi : IntsAre vs ns) : ∃ xs : Array (Int × Tok), vs.toArray = intItems xs ∧ ns = xs.toList.map (·.1) := by
  obtain ⟨xs, e⟩ := hi.allInts.items
  exact ⟨xs, e, by rw [← hi.numsOf, ← nums_intItems, ← e]⟩
theorem bi_ok (R : Rm A (N + 1)) (hsys : ∃ o, h₀.get? sysModules = some o) {b : Bi} {Vs : List V} {V' : V} {vs : List Value} (S : Stt prog w h₀ μ σ s) (r : RepL h₀ s.heap μ vs Vs) (e : biCall b Vs σ = some (V', σ')) :
    wpAny (model prog w) A (call (biVal b) vs) (PV prog w h₀ μ s σ' V') noE s := by
  have one : ∀ {V0 : V}, RepL h₀ s.heap μ vs [V0] → ∃ v, vs = [v] ∧ Rep h₀ s.heap μ v V0 := fun r => by
    obtain ⟨v, rfl⟩ := List.length_eq_one_iff.mp (by simpa using r.len)
    exact ⟨v, rfl, r.head⟩
  cases b with
  | abs => cases Vs with
    | nil => exact no_some e
    | cons x Vr => cases Vr with
      | cons y Vr => cases x <;> exact no_some e
      | nil => cases x with
        | int i =>
          delta biCall at e; dsimp only at e
          cases e
          obtain ⟨v, rfl, q⟩ := one r
          obtain ⟨t, rfl⟩ := q.int_inv
          exact call_abs_int fun u tk => PV.toks S (.int _ _)
        | _ => exact no_some e
  | int => cases Vs with
    | nil => exact no_some e
    | cons x Vr => cases Vr with
      | cons y Vr => cases x <;> exact no_some e
      | nil => cases x with
        | int i =>
          delta biCall at e; dsimp only at e
          cases e
          obtain ⟨v, rfl, q⟩ := one r
          obtain ⟨t, rfl⟩ := q.int_inv
          exact call_int_int (PV.here S (.int _ _))
        | _ => exact no_some e
  | max => cases Vs with
    | nil => exact no_some e
    | cons x Vr => cases Vr with
      | nil => cases x with
        | obj n =>
          delta biCall at e; dsimp only at e
          obtain ⟨v, rfl, q⟩ := one r
          obtain ⟨a, rfl, m⟩ := q.obj_inv
          split at e
          · rename_i Vs' c
            split at e
            · rename_i x rr q1
              cases e
              obtain ⟨ws, t, l⟩ := S.atL m c
              rw [intsOf_at q1] at l
              obtain ⟨xs, e1, e2⟩ := items_of l.ints
              rw [e1] at t
              have hsz : 0 < xs.size := by have h3 := congrArg List.length e2; simp at h3; exact ar23 h3
              refine max_intList R.hh t hsz fun v h' tk hv hk => ?_
              obtain ⟨t, rfl⟩ := intItems_at hv
              obtain ⟨h1, h2⟩ := argBest_gt (numAt xs) (xs.size - 1)
              have hM : numAt xs (argBest (fun i j => decide (numAt xs i > numAt xs j)) (xs.size - 1)) = maxL x rr := by
                have sp := maxL_spec rr x
                have hin : numAt xs (argBest (fun i j => decide (numAt xs i > numAt xs j)) (xs.size - 1)) ∈ x :: rr := by
                  rw [e2, numAt_eq]; exact getD_mem (by rw [List.length_map, Array.length_toList]; exact Nat.lt_of_le_pred hsz h1)
                have hge : ∀ z ∈ x :: rr, z ≤ numAt xs (argBest (fun i j => decide (numAt xs i > numAt xs j)) (xs.size - 1)) := fun z hz => by
                  rw [e2] at hz
                  obtain ⟨j, hj, rfl⟩ := mem_getD hz
                  rw [List.length_map, Array.length_toList] at hj
                  rw [← numAt_eq]; exact h2 j (by exact Nat.le_sub_one_of_lt hj)
                have l1 := hge _ (mem_cons_of sp.1)
                rcases List.mem_cons.mp hin with q | q
                · have := sp.2.1; exact ar77 l1 q this
                · have := sp.2.2 _ q; exact Int.le_antisymm this l1
              rw [hM]
              exact PV.kept S hk (.int _ _)
            · first | exact no_some e | cases e
          · first | exact no_some e | cases e
        | _ => exact no_some e
      | cons y Vr => cases Vr with
        | cons z Vr => cases x <;> first | exact no_some e | (cases y <;> exact no_some e)
        | nil => cases x with
          | int x => cases y with
            | int y =>
              delta biCall at e; dsimp only at e
              cases e
              have hl := r.len
              match vs, hl with
              | [v1, v2], _ =>
                obtain ⟨t1, rfl⟩ := r.head.int_inv
                obtain ⟨t2, rfl⟩ := r.tail.head.int_inv
                refine max_two_ints R.hh fun h' t hk => ?_
                by_cases q : y > x
                · simp only [if_pos q]; exact PV.kept S hk (.int _ _)
                · simp only [if_neg q]; exact PV.kept S hk (.int _ _)
            | _ => exact no_some e
          | _ => exact no_some e
  | len => cases Vs with
    | nil => exact no_some e
    | cons x Vr => cases Vr with
      | cons y Vr => cases x <;> exact no_some e
      | nil => cases x with
        | obj n =>
          delta biCall at e; dsimp only at e
          obtain ⟨v, rfl, q⟩ := one r
          obtain ⟨a, rfl, m⟩ := q.obj_inv
          split at e
          · rename_i Vs' c
            obtain ⟨ws, t, l⟩ := S.atL m c
            have hlen := l.len
            have hsz : (ws.toArray.size : Int) = (Vs'.length : Int) := by simp [hlen]
            split at e
            · rename_i hb
              cases e
              unfold lim at hb
              exact call_len_list t (by exact ar84 hsz hb) (by rw [hsz]; exact PV.toks S (.int _ _))
            · first | exact no_some e | cases e
          · rename_i es ep c
            obtain ⟨xs, x, en⟩ := S.at m c
            have hlen := en.len
            split at e
            · rename_i hb
              cases e
              unfold lim at hb
              refine len_E (S.noSys hsys (List.mem_of_getElem? m)) x (by exact ar85 hlen hb) fun t t' => ?_
              rw [en.len]; exact PV.toks S (.int _ _)
            · first | exact no_some e | cases e
          · first | exact no_some e | cases e
        | _ => exact no_some e
  | min => cases Vs with
    | nil => exact no_some e
    | cons x Vr => cases Vr with
      | cons y Vr => cases x <;> exact no_some e
      | nil => cases x with
        | obj n =>
          delta biCall at e; dsimp only at e
          obtain ⟨v, rfl, q⟩ := one r
          obtain ⟨a, rfl, m⟩ := q.obj_inv
          split at e
          · rename_i Vs' c
            split at e
            · rename_i x rr q1
              cases e
              obtain ⟨ws, t, l⟩ := S.atL m c
              rw [intsOf_at q1] at l
              obtain ⟨xs, e1, e2⟩ := items_of l.ints
              rw [e1] at t
              have hsz : 0 < xs.size := by have h3 := congrArg List.length e2; simp at h3; exact ar23 h3
              refine min_intList R.hh t hsz fun v h' tk hv hk => ?_
              obtain ⟨t, rfl⟩ := intItems_at hv
              obtain ⟨h1, h2⟩ := argBest_lt (numAt xs) (xs.size - 1)
              have hM : numAt xs (argBest (fun i j => decide (numAt xs i < numAt xs j)) (xs.size - 1)) = minL x rr := by
                have sp := minL_spec rr x
                have hin : numAt xs (argBest (fun i j => decide (numAt xs i < numAt xs j)) (xs.size - 1)) ∈ x :: rr := by
                  rw [e2, numAt_eq]; exact getD_mem (by rw [List.length_map, Array.length_toList]; exact Nat.lt_of_le_pred hsz h1)
                have hge : ∀ z ∈ x :: rr, numAt xs (argBest (fun i j => decide (numAt xs i < numAt xs j)) (xs.size - 1)) ≤ z := fun z hz => by
                  rw [e2] at hz
                  obtain ⟨j, hj, rfl⟩ := mem_getD hz
                  rw [List.length_map, Array.length_toList] at hj
                  rw [← numAt_eq]; exact h2 j (by exact Nat.le_sub_one_of_lt hj)
                have l1 := hge _ (mem_cons_of sp.1)
                rcases List.mem_cons.mp hin with q | q
                · have := sp.2.1; exact ar86 l1 q this
                · have := sp.2.2 _ q; exact Int.le_antisymm l1 this
              rw [hM]
              exact PV.kept S hk (.int _ _)
            · first | exact no_some e | cases e
          · first | exact no_some e | cases e
        | _ => exact no_some e
  | sum => cases Vs with
    | nil => exact no_some e
    | cons x Vr => cases Vr with
      | cons y Vr => cases x <;> exact no_some e
      | nil => cases x with
        | obj n =>
          delta biCall at e; dsimp only at e
          obtain ⟨v, rfl, q⟩ := one r
          obtain ⟨a, rfl, m⟩ := q.obj_inv
          split at e
          · rename_i Vs' c
            split at e
            · rename_i ll q1
              cases e
              obtain ⟨ws, t, l⟩ := S.atL m c
              rw [intsOf_at q1] at l
              obtain ⟨xs, e1, e2⟩ := items_of l.ints
              rw [e1] at t
              refine sum_intListG R.hh t fun h' tk t' hk => ?_
              have hM : preSum (numAt xs) xs.size = sumL 0 ll := by
                rw [preSum_eq, List.take_of_length_le (by simp), ← e2, sumL_eq, Int.zero_add]
              rw [hM]
              exact PV.kept S hk (.int _ _)
            · first | exact no_some e | cases e
          · first | exact no_some e | cases e
        | _ => exact no_some e
  | tuple => cases Vs with
    | nil => exact no_some e
    | cons x Vr => cases Vr with
      | cons y Vr => cases x <;> exact no_some e
      | nil => cases x with
        | obj n =>
          delta biCall at e; dsimp only at e
          obtain ⟨v, rfl, q⟩ := one r
          obtain ⟨a, rfl, m⟩ := q.obj_inv
          split at e
          · rename_i Vs' c
            split at e
            · rename_i hl
              cases e
              obtain ⟨ws, t, l⟩ := S.atL m c
              refine call_tuple_list t (fun h' hk => ?_) (by have := l.len; rw [sizeLine_eq]; simp; unfold lim at hl; exact ar2 hl this)
              have hk2 : ∀ b o, s.heap.get? b = some o → (h'.push { cls := .type "tuple", data := .seq ws.toArray }).get? b = some o := fun b o e => Heap.get?_push_of_some _ (hk b o e)
              refine PV.kept S hk2 (.tup' ⟨_, Heap.get?_push_size _ rfl, rfl, _, rfl⟩ (l.moved fun b items ⟨o, h1, r⟩ => ⟨o, hk2 b o h1, r⟩))
            · first | exact no_some e | cases e
          · first | exact no_some e | cases e
        | _ => exact no_some e
  | any => cases Vs with
    | nil => exact no_some e
    | cons x Vr => cases Vr with
      | cons y Vr => cases x <;> exact no_some e
      | nil => cases x with
        | obj n =>
          delta biCall at e; dsimp only at e
          obtain ⟨v, rfl, q⟩ := one r
          obtain ⟨a, rfl, m⟩ := q.obj_inv
          split at e
          · rename_i Vs' c
            split at e
            · rename_i ll q1
              cases e
              obtain ⟨ws, t, l⟩ := S.atL m c
              rw [boolsOf_at q1] at l
              exact any_E R.hh t l.bools fun h' t hk => PV.kept S hk (.bool _)
            · first | exact no_some e | cases e
          · first | exact no_some e | cases e
        | _ => exact no_some e
  | dict => cases Vs with
    | nil => exact no_some e
    | cons x Vr => cases Vr with
      | cons y Vr => cases x <;> exact no_some e
      | nil => cases x with
        | obj n =>
          delta biCall at e; dsimp only at e
          obtain ⟨v, rfl, q⟩ := one r
          obtain ⟨a, rfl, m⟩ := q.obj_inv
          split at e
          · rename_i es ep c
            split at e
            · rename_i hl
              cases e
              obtain ⟨xs, x, en⟩ := S.at m c
              have hp : (xs.map fun x => (tk prog w).hash x.1).Pairwise (· ≠ ·) := by
                have := apart_pairwise hl.2
                have e1 : (xs.map fun x => (tk prog w).hash x.1) = es.map fun e => hashK e.1 := by
                  have e2 : (xs.map fun x => (tk prog w).hash x.1) = (xs.map (·.1)).map fun y => (tk prog w).hash y := by rw [List.map_map]; rfl
                  have e3 : (es.map fun e => hashK e.1) = (es.map (·.1)).map hashK := by rw [List.map_map]; rfl
                  rw [e2, e3, en.keys]
                  rfl
                rw [e1]; exact this
              refine copy_E (S.noSys hsys (List.mem_of_getElem? m)) x (by have := en.len; rw [sizeLine_eq]; have := hl.1; unfold lim at this; omega) hp fun h' t x' hs => ?_
              have S1 := S.stp0 (Stp.push noX s { cls := .type "dict", data := .dict #[] } s.toks)
              have hp0 : (s.heap.push { cls := .type "dict", data := .dict #[] }).get? s.heap.objs.size = some { cls := .type "dict", data := .dict #[] } := Heap.get?_push_size _ rfl
              obtain ⟨S2, E2⟩ := S.alloc (t := s.toks) (o := { cls := .type "dict", data := .dict #[] }) (c := .dict [] 0)
                ⟨[], ⟨_, #[], hp0, ⟨rfl, rfl, rfl⟩, rfl, rfl, fun _ hx => by simp at hx, List.nodup_nil⟩, .nil⟩
              have hm2 : (μ ++ [s.heap.objs.size])[σ.length]? = some s.heap.objs.size := by rw [← S.len]; simp
              have ht : ∀ b items, s.heap.IsTuple b items → h'.IsTuple b items := fun b items t0 => S2.tupBut (List.mem_of_getElem? hm2) hs b items (t0.push _)
              have hem : (if xs.isEmpty = true then 0 else 1) = (if es.isEmpty = true then 0 else 1) := by
                have := en.len
                cases xs <;> cases es <;> simp_all
              rw [hem] at x'
              obtain ⟨S3, E3⟩ := S2.upd (t := t) (c := .dict es (if es.isEmpty = true then 0 else 1)) hm2 hs ⟨xs, x', en.grow ht⟩
              refine ⟨_, ?_, .obj hm2, E2.tr E3⟩
              have : (σ ++ [Cell.dict [] 0]).set σ.length (.dict es (if es.isEmpty = true then 0 else 1)) = σ ++ [.dict es (if es.isEmpty = true then 0 else 1)] := by simp
              rw [this] at S3
              exact S3
            · first | exact no_some e | cases e
          · first | exact no_some e | cases e
        | _ => exact no_some e
end Mine
namespace Mine
open PySem PySem.Calls PyProof.Rows
variable {prog : Program} {w : World} {A : Around} {E : Value → Shared → Prop} {s : Shared} {d a : Addr} {xs : List (List Int × Addr × Value)} {ep : Nat} {k : List Int} {h₀ : Heap} {μ : List Addr} {σ σ' : Store} {N : Nat}
/-- what the look-up of a method asks of its object -/
structure MethAt (s : Shared) (ov : Value) (nm : Str) (T id : String) : Prop where
  ty : s.TypeIs ov T
  nod : ∀ a, ov = .ref a → ∃ ob, s.heap.get? a = some ob ∧ ob.dict = none
  pa : PlainAttrs T
  slot : Slot T nm id
  hty : typeOf (.builtin id) = pure (.type "method_descriptor")
theorem methPre_ok {o : V} {nm : Str} {ov : Value} (S : Stt prog w h₀ μ σ s) (r : Rep h₀ s.heap μ ov o) (e : methPre o nm σ = true) :
    (nm = Str.ofString "append" ∧ MethAt s ov nm "list" "list.append") ∨ (nm = Str.ofString "pop" ∧ MethAt s ov nm "dict" "dict.pop") := by
  unfold methPre at e
  split at e
  · rename_i n
    obtain ⟨a, rfl, m⟩ := r.obj_inv
    split at e
    · rename_i q
      have := of_decide_eq_true e
      subst this
      obtain ⟨ws, ⟨ne, t⟩, l⟩ := S.at m q
      exact .inl ⟨rfl, ⟨_, t, rfl⟩, fun b hb => by cases hb; exact ⟨_, t, rfl⟩, F.plainAttrs_list, slot_list_append, type_list_append⟩
    · rename_i q
      have := of_decide_eq_true e
      subst this
      obtain ⟨xs, x, en⟩ := S.at m q
      obtain ⟨o, es, h1, h2, _⟩ := id x
      exact .inr ⟨rfl, x.typeIs, fun b hb => by cases hb; exact ⟨_, h1, h2.2.1⟩, F.plainAttrs_dict, F.slot_dict_pop, F.type_dict_pop⟩
    · first | exact no_some e | cases e
  · first | exact no_some e | cases e
theorem append_ne_pop : (Str.ofString "append" = Str.ofString "pop") = False := by
  have : Str.ofString "append" ≠ Str.ofString "pop" := by decide +kernel
  exact eq_false this
theorem append_ok {n : Nat} {v : Value} {W : V} {Vs : List V} {a : Addr} (S : Stt prog w h₀ μ σ s) (m : μ[n]? = some a) (q : σ[n]? = some (.list Vs)) (hl : Vs.length < lim) (r : Rep h₀ s.heap μ v W) :
    wpAny (model prog w) A (call (.builtin "list.append") [.ref a, v]) (fun r s' => r = .none ∧ Stt prog w h₀ μ (σ.set n (.list (Vs ++ [W]))) s' ∧ Evo noX μ s μ s') noE s := by
  obtain ⟨ws, t, l⟩ := S.at m q
  refine wpAny_list_append_plain t (fun h' t' hs => ?_) (by have := l.len; rw [sizeLine_eq]; simp; unfold lim at hl; exact ar2 hl this)
  have ht := S.tupBut (List.mem_of_getElem? m) hs
  have e : ws.toArray.push v = (ws ++ [v]).toArray := by simp
  rw [e] at t'
  obtain ⟨S', E'⟩ := S.upd (t := s.toks) (c := .list (Vs ++ [W])) m hs ⟨_, t', (l.moved ht).append (.cons (r.moved ht) .nil)⟩
  exact ⟨rfl, S', E'⟩
theorem meth_ok (R : Rm A (N + 1)) (hsys : ∃ o, h₀.get? sysModules = some o) {o : V} {nm : Str} {Vs : List V} {V' : V} {ov : Value} {vs : List Value} (S : Stt prog w h₀ μ σ s) (ro : Rep h₀ s.heap μ ov o) (r : RepL h₀ s.heap μ vs Vs)
    (e : methodV o nm Vs σ = some (V', σ')) : ∃ id, (nm = Str.ofString "append" ∧ id = "list.append" ∨ nm = Str.ofString "pop" ∧ id = "dict.pop") ∧ wpAny (model prog w) A (call (.builtin id) (ov :: vs)) (PV prog w h₀ μ s σ' V') noE s := by
  unfold methodV at e
  split at e
  · rename_i n W
    obtain ⟨a, rfl, m⟩ := ro.obj_inv
    split at e
    · rename_i hn
      split at e
      · rename_i Ws q
        split at e
        · rename_i hl
          cases e
          obtain ⟨v, rfl⟩ := List.length_eq_one_iff.mp (by simpa using r.len)
          refine ⟨_, .inl ⟨hn, rfl⟩, wpAny_mono (append_ok S m q hl r.head) (fun r s' ⟨e1, S', E'⟩ => ?_) fun _ _ x => x⟩
          subst e1
          exact ⟨_, S', .none, E'⟩
        · first | exact no_some e | cases e
      · first | exact no_some e | cases e
    · first | exact no_some e | cases e
  · rename_i n ks dv
    obtain ⟨a, rfl, m⟩ := ro.obj_inv
    split at e
    · rename_i hn
      split at e
      · rename_i es ep kk q1 q2
        have hl := r.len
        match vs, hl with
        | [v1, v2], _ =>
          have rk := r.head
          rw [intsOf_at q2] at rk
          obtain ⟨a1, rfl, k1⟩ := rk.key (prog := prog) (w := w)
          have rd := r.tail.head
          obtain ⟨xs, x, en⟩ := S.at m q1
          have hm := List.mem_of_getElem? m
          refine ⟨_, .inr ⟨hn, rfl⟩, ?_⟩
          split at e
          · rename_i hlm
            refine pop_E R.u1 k1 x (by have := en.len; rw [sizeLine_eq]; unfold lim at hlm; exact ar2 hlm this) (S.noSys hsys hm) (fun h0 t => ?_) fun p h0 h' t x' hs => ?_
            · rcases en.get (k := kk) with ⟨e1, e2⟩ | ⟨p, W', e1, e2, _⟩
              · rw [e2] at e; cases e
                exact PV.toks S rd
              · rw [e1] at h0; cases h0
            · rcases en.get (k := kk) with ⟨e1, e2⟩ | ⟨p', W', e1, e2, rp⟩
              · rw [e1] at h0; cases h0
              · rw [e1] at h0; cases h0
                rw [e2] at e; cases e
                have ht := S.tupBut hm hs
                obtain ⟨S', E'⟩ := S.upd (t := t) (c := .dict (ddel es kk) (ep + 1)) m hs ⟨_, x', (en.moved ht).drop⟩
                exact ⟨_, S', rp.moved ht, E'⟩
          · first | exact no_some e | cases e
      · first | exact no_some e | cases e
    · first | exact no_some e | cases e
  · first | exact no_some e | cases e
end Mine
namespace Mine
open PySem PySem.Calls PyProof.Rows
variable {prog : Program} {w : World} {A : Around} {E : Value → Shared → Prop} {s : Shared} {d a : Addr} {xs : List (List Int × Addr × Value)} {ep : Nat} {k : List Int} {h₀ : Heap} {μ : List Addr} {σ σ' : Store} {N : Nat}
/-- an iterator that lies at it, with what it owns -/
noncomputable def ItAt (h₀ h : Heap) (μ : List Addr) (it : Addr) (ow : List Addr) : It → Prop
  | .dict n i len ep => ow = [it] ∧ h₀.get? it = none ∧ ∃ d, μ[n]? = some d ∧ h.IsKeyIter it d i len ep
  | .list n i => ow = [it] ∧ h₀.get? it = none ∧ ∃ l, μ[n]? = some l ∧ h.IsListIter it l i
  | .items Vs i => ow = [it] ∧ h₀.get? it = none ∧ ∃ t vs, h.IsTuple t vs.toArray ∧ RepL h₀ h μ vs Vs ∧ h.IsTupleIter it t i
  | .range x left => ow = [it] ∧ h₀.get? it = none ∧ IsRangeIter h it x left 1
  | .enumL n i => ∃ j, ow = [it, j] ∧ h₀.get? it = none ∧ h₀.get? j = none ∧ it ≠ j ∧ ∃ old l, μ[n]? = some l ∧ IsEnum h it j i old ∧ h.IsListIter j l i
  | .enumT Vs i => ∃ j, ow = [it, j] ∧ h₀.get? it = none ∧ h₀.get? j = none ∧ it ≠ j ∧ i ≤ Vs.length ∧ ∃ old t vs, h.IsTuple t vs.toArray ∧ RepL h₀ h μ vs Vs ∧ IsEnum h it j i old ∧ h.IsTupleIter j t i
theorem ItAt.owned {h : Heap} {it : Addr} {ow : List Addr} {I : It} (x : ItAt h₀ h μ it ow I) : ∀ b ∈ ow, h₀.get? b = none ∧ ∃ o vs, h.get? b = some o ∧ o.data = .fields vs := by
  intro b hb
  cases I with
  | dict n i len ep => obtain ⟨rfl, g, d, _, o, h1, _, h3⟩ := x; cases List.mem_singleton.mp hb; exact ⟨g, o, _, h1, h3⟩
  | list n i => obtain ⟨rfl, g, d, _, o, h1, _, h3⟩ := x; cases List.mem_singleton.mp hb; exact ⟨g, o, _, h1, h3⟩
  | items Vs i => obtain ⟨rfl, g, t, vs, _, _, o, h1, _, h3⟩ := x; cases List.mem_singleton.mp hb; exact ⟨g, o, _, h1, h3⟩
  | range y left => obtain ⟨rfl, g, h1⟩ := x; cases List.mem_singleton.mp hb; exact ⟨g, _, _, h1, rfl⟩
  | enumL n i =>
    obtain ⟨j, rfl, g1, g2, _, old, l, _, h1, o, h2, _, h3⟩ := x
    rcases List.mem_cons.mp hb with rfl | hb
    · exact ⟨g1, _, _, h1, rfl⟩
    · cases List.mem_singleton.mp hb; exact ⟨g2, o, _, h2, h3⟩
  | enumT Vs i =>
    obtain ⟨j, rfl, g1, g2, _, _, old, t, vs, _, _, h1, o, h2, _, h3⟩ := x
    rcases List.mem_cons.mp hb with rfl | hb
    · exact ⟨g1, _, _, h1, rfl⟩
    · cases List.mem_singleton.mp hb; exact ⟨g2, o, _, h2, h3⟩
/-- a step that leaves the iterator's own things alone -/
theorem ItAt.keep {h h' : Heap} {ν : List Addr} {it : Addr} {ow : List Addr} {I : It} (x : ItAt h₀ h μ it ow I) (ht : ∀ a items, h.IsTuple a items → h'.IsTuple a items) (ho : ∀ b ∈ ow, ∀ o, h.get? b = some o → h'.get? b = some o) : ItAt h₀ h' (μ ++ ν) it ow I := by
  have mm : ∀ {n : Nat} {d : Addr}, μ[n]? = some d → (μ ++ ν)[n]? = some d := fun e => by rw [List.getElem?_append_left (List.getElem?_eq_some_iff.mp e).1]; exact e
  cases I with
  | dict n i len ep => obtain ⟨rfl, g, d, m, o, h1, r⟩ := x; exact ⟨rfl, g, d, mm m, o, ho _ (by simp) _ h1, r⟩
  | list n i => obtain ⟨rfl, g, d, m, o, h1, r⟩ := x; exact ⟨rfl, g, d, mm m, o, ho _ (by simp) _ h1, r⟩
  | items Vs i => obtain ⟨rfl, g, t, vs, t1, l, o, h1, r⟩ := x; exact ⟨rfl, g, t, vs, ht _ _ t1, l.grow ht, o, ho _ (by simp) _ h1, r⟩
  | range y left => obtain ⟨rfl, g, h1⟩ := x; exact ⟨rfl, g, ho _ (by simp) _ h1⟩
  | enumL n i => obtain ⟨j, rfl, g1, g2, ne, old, l, m, h1, o, h2, r⟩ := x; exact ⟨j, rfl, g1, g2, ne, old, l, mm m, ho _ (by simp) _ h1, o, ho _ (by simp) _ h2, r⟩
  | enumT Vs i => obtain ⟨j, rfl, g1, g2, ne, hle, old, t, vs, t1, l, h1, o, h2, r⟩ := x; exact ⟨j, rfl, g1, g2, ne, hle, old, t, vs, ht _ _ t1, l.grow ht, ho _ (by simp) _ h1, o, ho _ (by simp) _ h2, r⟩
/-- the store behind a step that touches owned records alone -/
theorem Stt.owned (S : Stt prog w h₀ μ σ s) {ow : List Addr} (hw : ∀ b ∈ ow, h₀.get? b = none ∧ ∃ o vs, s.heap.get? b = some o ∧ o.data = .fields vs) {h' : Heap} {t : Nat} (hk : ∀ b o, b ∉ ow → s.heap.get? b = some o → h'.get? b = some o) :
    Stt prog w h₀ μ σ { s with heap := h', toks := t } ∧ (∀ a items, s.heap.IsTuple a items → h'.IsTuple a items) := by
  have ht : ∀ a items, s.heap.IsTuple a items → h'.IsTuple a items := fun a items ⟨o, h1, h2, n, h3⟩ => ⟨o, hk a o (fun q => by
    obtain ⟨_, o', vs, e1, e2⟩ := hw a q
    rw [h1] at e1; cases e1; rw [h3] at e2; cases e2) h1, h2, n, h3⟩
  refine ⟨⟨fun b o e => hk b o (fun q => by rw [(hw b q).1] at e; cases e) (S.base b o e), S.out, S.nodup, S.len, fun n c e => ?_⟩, ht⟩
  obtain ⟨ad, e1, x⟩ := S.cell n c e
  refine ⟨ad, e1, ?_⟩
  have := x.grow (ν := []) ht fun o e => hk ad o (fun q => by
    obtain ⟨_, o', vs, g1, g2⟩ := hw ad q
    exact S.notFields g1 g2 (List.mem_of_getElem? e1)) e
  rwa [List.append_nil] at this
theorem ItAt.keep0 {h h' : Heap} {it : Addr} {ow : List Addr} {I : It} (x : ItAt h₀ h μ it ow I) (ht : ∀ a items, h.IsTuple a items → h'.IsTuple a items) (ho : ∀ b ∈ ow, ∀ o, h.get? b = some o → h'.get? b = some o) : ItAt h₀ h' μ it ow I := by
  have := x.keep (ν := []) ht ho
  rwa [List.append_nil] at this
/-- the end of one draw: an item -/
structure Drew (prog : Program) (w : World) (h₀ : Heap) (μ : List Addr) (σ : Store) (it : Addr) (ow : List Addr) (s : Shared) (V : V) (I' : It) (v : Value) (s' : Shared) : Prop where
  st : Stt prog w h₀ μ σ s'
  rep : Rep h₀ s'.heap μ v V
  it : ItAt h₀ s'.heap μ it ow I'
  stp : Stp (· ∈ ow) s s'
/-- the end of one draw: none is left -/
noncomputable def Dry (ow : List Addr) (s s' : Shared) : Prop := ∃ h', s' = { s with heap := h' } ∧ ∃ j ∈ ow, Heap.ExtBut j s.heap h'
theorem tgt_name {tgt : Expr} {I : It} (h : tgtOk tgt I = true) (hI : ∀ ts k p, tgtOk (.Tuple ts k p) I = false) : ∃ y p, tgt = .Name y p := by
  cases tgt with
  | Name y p => exact ⟨y, p, rfl⟩
  | Tuple ts k p => rw [hI] at h; cases h
  | _ => exact Bool.noConfusion (show false = true from h)
theorem tgt_tup {tgt : Expr} {I : It} (h : tgtOk tgt I = true) (hI : ∀ y p, tgtOk (.Name y p) I = false) : ∃ ts k p, tgt = .Tuple ts k p := by
  cases tgt with
  | Name y p => rw [hI] at h; cases h
  | Tuple ts k p => exact ⟨ts, k, p, rfl⟩
  | _ => exact Bool.noConfusion (show false = true from h)
theorem next_ok (R : Rm A (N + 2)) {it : Addr} {ow : List Addr} {I : It} {r : Option (V × It)} {tgt : Expr} (S : Stt prog w h₀ μ σ s) (x : ItAt h₀ s.heap μ it ow I) (ht : tgtOk tgt I = true) (e : nextI I σ = some r) :
    wpAny (model prog w) A (pyNext (.ref it)) (fun rv s' => match r with
      | none => rv = none ∧ Dry ow s s'
      | some (V', I') => ∃ v, rv = some v ∧ wpAny (model prog w) A (letOwnedTupleGo tgt (.ref it) v) (fun _ s'' => Drew prog w h₀ μ σ it ow s V' I' v s'') noE s') noE s := by
  have hw := x.owned
  -- a plain name as the target: nothing is let go
  have plain : ∀ {V' : V} {I' : It} {v : Value} {h' : Heap} {t : Nat}, (∃ y p, tgt = .Name y p) → ow = [it] → Heap.SameBut it s.heap h' → (∃ o, h'.get? it = some o) → Rep h₀ s.heap μ v V' → ((∀ a items, s.heap.IsTuple a items → h'.IsTuple a items) → ItAt h₀ h' μ it ow I') →
      wpAny (model prog w) A (letOwnedTupleGo tgt (.ref it) v) (fun _ s'' => Drew prog w h₀ μ σ it ow s V' I' v s'') noE { s with heap := h', toks := t } := by
    intro V' I' v h' t ht how hs hl hv hI
    obtain ⟨y, p, rfl⟩ := ht
    subst how
    have hk : ∀ b o, b ∉ [it] → s.heap.get? b = some o → h'.get? b = some o := fun b o nb e => (hs.2 b fun q => nb (by simp [q])).trans e
    obtain ⟨S', ht⟩ := S.owned hw (t := t) hk
    exact wpAny_pure ⟨S', hv.moved ht, hI ht, Stp.sameBut t hs hl (by simp)⟩
  cases I with
  | dict n i len ep =>
    have hT : ∃ y p, tgt = .Name y p := tgt_name ht fun _ _ _ => rfl
    obtain ⟨how, g, d, m, ki⟩ := x
    delta nextI at e; dsimp only at e
    split at e
    · rename_i es ep' q
      split at e
      · rename_i c
        obtain ⟨c1, rfl⟩ := c
        obtain ⟨xs, xd, en⟩ := S.at m q
        have hlen := en.len
        rw [← c1, ← hlen] at ki
        split at e
        · rename_i e1 e1q
          cases e
          have hi : i < xs.length := by rw [hlen]; exact (List.getElem?_eq_some_iff.mp e1q).1
          have hk1 := en.keys
          refine next_E (x := xs[i]) ki xd (List.getElem?_eq_getElem hi) fun h' ki' hs => ⟨_, rfl, ?_⟩
          have hkey : xs[i].1 = e1.1 := by
            have h9 := congrArg (fun l => l[i]?) hk1
            simp only [List.getElem?_map, List.getElem?_eq_getElem hi, Option.map_some] at h9
            rw [e1q] at h9; simpa using h9
          obtain ⟨od, esd, _, _, _, _, his, _⟩ := id xd
          have hkk := his xs[i] (List.getElem_mem hi)
          rw [hkey] at hkk
          obtain ⟨o', ho', _⟩ := id ki'
          exact plain (t := s.toks) hT how hs ⟨o', ho'⟩ (Rep.ofKey hkk) fun ht' => ⟨how, g, d, m, by rw [hlen, c1] at ki'; exact ki'⟩
        · first | exact no_some e | cases e
          refine stop_E R.hh ki xd (List.getElem?_eq_none (by rw [hlen]; exact List.getElem?_eq_none_iff.mp ‹_›)) fun h' hs => ⟨rfl, h', rfl, it, by simp [how], hs⟩
      · first | exact no_some e | cases e
    · first | exact no_some e | cases e
  | list n i =>
    have hT : ∃ y p, tgt = .Name y p := tgt_name ht fun _ _ _ => rfl
    obtain ⟨how, g, l, m, li⟩ := x
    delta nextI at e; dsimp only at e
    split at e
    · rename_i Vs q
      obtain ⟨ws, t, rl⟩ := S.atL m q
      split at e
      · rename_i W q1
        cases e
        obtain ⟨v, e1, rv⟩ := rl.exists q1
        refine wpAny_pyNext_list_item li t (x := v) (by simpa using e1) fun h' li' hs => ⟨_, rfl, ?_⟩
        obtain ⟨o', ho', _⟩ := id li'
        exact plain (t := s.toks) hT how hs ⟨o', ho'⟩ rv fun ht' => ⟨how, g, l, m, li'⟩
      · rename_i q1
        cases e
        refine wpAny_pyNext_list_end R.hh li t (by have := rl.len; simp at q1 ⊢; exact ar15 this q1) fun h' hs => ⟨rfl, h', rfl, it, by simp [how], hs⟩
    · first | exact no_some e | cases e
  | items Vs i =>
    have hT : ∃ y p, tgt = .Name y p := tgt_name ht fun _ _ _ => rfl
    obtain ⟨how, g, t, ws, tt, rl, ti⟩ := x
    delta nextI at e; dsimp only at e
    split at e
    · rename_i W q1
      cases e
      obtain ⟨v, e1, rv⟩ := rl.exists q1
      refine wpAny_pyNext_tuple_item ti tt (x := v) (by simpa using e1) fun h' ti' hs => ⟨_, rfl, ?_⟩
      obtain ⟨o', ho', _⟩ := id ti'
      exact plain (t := s.toks) hT how hs ⟨o', ho'⟩ rv fun ht' => ⟨how, g, t, ws, ht' _ _ tt, rl.moved ht', ti'⟩
    · rename_i q1
      cases e
      refine wpAny_pyNext_tuple_end R.hh ti tt (by have := rl.len; simp at q1 ⊢; exact ar15 this q1) fun h' hs => ⟨rfl, h', rfl, it, by simp [how], hs⟩
  | range y left =>
    have hT : ∃ y p, tgt = .Name y p := tgt_name ht fun _ _ _ => rfl
    obtain ⟨how, g, ri⟩ := x
    delta nextI at e; dsimp only at e
    split at e
    · first | exact no_some e | cases e
      refine wpAny_pyNext_range_end R.hh ri (by simp) fun h' hs => ⟨rfl, h', rfl, it, by simp [how], hs⟩
    · rename_i l
      cases e
      refine wpAny_pyNext_range_item ri (by exact ar93) fun h' ri' hs => ⟨_, rfl, ?_⟩
      exact plain (t := s.toks + 1) hT how hs ⟨_, ri'⟩ (.int _ _) fun ht' => ⟨how, g, by
        have : ((l + 1 : Nat) : Int) - 1 = (l : Int) := by exact ar94
        rw [this] at ri'; exact ri'⟩
  | enumL n i =>
    have hT : ∃ ts k p, tgt = .Tuple ts k p := tgt_tup ht fun _ _ => rfl
    obtain ⟨ts, kk, p, rfl⟩ := hT
    obtain ⟨j, how, g1, g2, ne, old, l, m, en, li⟩ := x
    delta nextI at e; dsimp only at e
    split at e
    · rename_i Vs q
      obtain ⟨ws, t, rl⟩ := S.atL m q
      have hll : l ∈ μ := List.mem_of_getElem? m
      have hlj : l ≠ j := fun q => by
        obtain ⟨o, h1, _, h3⟩ := li
        exact S.notFields h1 h3 (q ▸ hll)
      have hli : l ≠ it := fun q => S.notFields en rfl (q ▸ hll)
      split at e
      · rename_i W q1
        cases e
        obtain ⟨v, e1, rv⟩ := rl.exists q1
        have hi : i < ws.toArray.size := by have := (List.getElem?_eq_some_iff.mp e1).1; simpa using this
        refine wpAny_pyNext_enum_itemD (Draws.list (A := A.in1) R.hh j l hlj ws.toArray) en ⟨li, t⟩ hi ne (by simp [ne, Ne.symm hli]) fun x h' tk hx eo st tp hsz hk => ⟨_, rfl, ?_⟩
        have hxv : x = v := by
          have : ws[i]? = some x := by simpa using hx
          rw [e1] at this; exact (Option.some.inj this).symm
        subst hxv
        refine wpAny_letOwnedTupleGo_enum eo fun h'' en'' hs'' => ?_
        have hne : s.heap.objs.size ≠ it := Nat.ne_of_gt (Heap.lt_size en)
        have tp' : h''.get? s.heap.objs.size = some { cls := .type "tuple", data := .seq #[.int i tk, x] } := (hs''.2 _ hne).trans tp
        have hk' : ∀ b o, b ∉ [it, j] → s.heap.get? b = some o → h''.get? b = some o := fun b o nb e => (hs''.2 b fun q => nb (by simp [q])).trans (hk b o (fun q => nb (by simp [q])) (fun q => nb (by simp [q])) e)
        obtain ⟨oj, hoj, hcj, hdj⟩ := id st.1
        have hjn : h''.get? j = some oj := (hs''.2 j (Ne.symm ne)).trans hoj
        rw [how] at hw
        obtain ⟨S', ht⟩ := S.owned hw (t := tk + 1) hk'
        refine ⟨S', .tup' ⟨_, tp', rfl, _, rfl⟩ (.cons (.int _ _) (.cons (rv.moved ht) .nil)), ⟨j, how, g1, g2, ne, _, l, m, en'', oj, hjn, hcj, hdj⟩, ⟨⟨_, _, rfl⟩, fun b o e nb => hk' b o (by rw [← how]; exact nb) e, fun b o e => ?_⟩⟩
        by_cases qi : b = it
        · exact ⟨_, qi ▸ en''⟩
        · by_cases qj : b = j
          · exact ⟨_, qj ▸ hjn⟩
          · exact ⟨o, hk' b o (by simp [qi, qj]) e⟩
      · rename_i q1
        cases e
        refine wpAny_pyNext_enum_end R.hh en li t (by have := rl.len; simp at q1 ⊢; exact ar15 this q1) fun h' hs => ⟨rfl, h', rfl, j, by simp [how], hs⟩
    · first | exact no_some e | cases e
  | enumT Vs i =>
    have hT : ∃ ts k p, tgt = .Tuple ts k p := tgt_tup ht fun _ _ => rfl
    obtain ⟨ts, kk, p, rfl⟩ := hT
    obtain ⟨j, how, g1, g2, ne, hle, old, tu, ws, t, rl, en, li⟩ := x
    delta nextI at e; dsimp only at e
    have htj : tu ≠ j := fun q => by
      obtain ⟨o, h1, _, h3⟩ := li
      obtain ⟨o2, k1, _, n2, k3⟩ := t
      rw [q, h1] at k1; cases k1; rw [h3] at k3; cases k3
    have hti : tu ≠ it := fun q => by
      obtain ⟨o2, k1, _, n2, k3⟩ := t
      rw [q, en] at k1; cases k1; cases k3
    split at e
    · rename_i W q1
      cases e
      obtain ⟨v, e1, rv⟩ := rl.exists q1
      have hi : i < ws.toArray.size := by have := (List.getElem?_eq_some_iff.mp e1).1; simpa using this
      refine wpAny_pyNext_enum_itemD (draws_tup (A := A.in1) R.hh j tu htj ws.toArray) en ⟨li, t⟩ hi ne (by simp [ne, Ne.symm hti]) fun x h' tk hx eo st tp hsz hk => ⟨_, rfl, ?_⟩
      have hxv : x = v := by
        have : ws[i]? = some x := by simpa using hx
        rw [e1] at this; exact (Option.some.inj this).symm
      subst hxv
      refine wpAny_letOwnedTupleGo_enum eo fun h'' en'' hs'' => ?_
      have hne : s.heap.objs.size ≠ it := Nat.ne_of_gt (Heap.lt_size en)
      have tp' : h''.get? s.heap.objs.size = some { cls := .type "tuple", data := .seq #[.int i tk, x] } := (hs''.2 _ hne).trans tp
      have hk' : ∀ b o, b ∉ [it, j] → s.heap.get? b = some o → h''.get? b = some o := fun b o nb e => (hs''.2 b fun q => nb (by simp [q])).trans (hk b o (fun q => nb (by simp [q])) (fun q => nb (by simp [q])) e)
      obtain ⟨oj, hoj, hcj, hdj⟩ := id st.1
      have hjn : h''.get? j = some oj := (hs''.2 j (Ne.symm ne)).trans hoj
      rw [how] at hw
      obtain ⟨S', ht⟩ := S.owned hw (t := tk + 1) hk'
      refine ⟨S', .tup' ⟨_, tp', rfl, _, rfl⟩ (.cons (.int _ _) (.cons (rv.moved ht) .nil)), ⟨j, how, g1, g2, ne, (List.getElem?_eq_some_iff.mp q1).1, _, tu, ws, ht _ _ t, rl.moved ht, en'', oj, hjn, hcj, hdj⟩, ⟨⟨_, _, rfl⟩, fun b o e nb => hk' b o (by rw [← how]; exact nb) e, fun b o e => ?_⟩⟩
      by_cases qi : b = it
      · exact ⟨_, qi ▸ en''⟩
      · by_cases qj : b = j
        · exact ⟨_, qj ▸ hjn⟩
        · exact ⟨o, hk' b o (by simp [qi, qj]) e⟩
    · rename_i q1
      cases e
      have hin : i = ws.toArray.size := by
        have h1 := rl.len
        have h2 := List.getElem?_eq_none_iff.mp q1
        rw [List.size_toArray]; exact ar96 hle h1 h2
      subst hin
      exact wpAny_pyNext_enum_endD (draws_tup (A := A.in1) R.hh j tu htj ws.toArray) en ⟨li, t⟩ fun h' hs => ⟨rfl, h', rfl, j, by simp [how], hs⟩
end Mine
namespace Mine
open PySem PySem.Calls PyProof.Rows
variable {prog : Program} {w : World} {A : Around} {E : Value → Shared → Prop} {s : Shared} {h₀ : Heap} {μ : List Addr} {σ σ' : Store} {N : Nat} {env : Env} {cx : Cx} {ρ ρ' : Rho}
theorem rset_spec : ∀ {ρ ρ' : Rho} {x : Str} {W : V}, rset ρ x W = some ρ' → (∀ y, rget ρ' y = if y = x then some W else rget ρ y) ∧ ρ'.map (·.1) = ρ.map (·.1) ∧ x ∈ ρ.map (·.1)
  | [], _, _, _, h => by cases h
  | (z, v) :: r, ρ', x, W, h => by
    unfold rset at h
    split at h
    · rename_i q
      have q' : x = z := eq_of_beq q
      cases h
      subst q'
      refine ⟨fun y => ?_, rfl, by simp⟩
      by_cases c : y = x
      · subst c; simp [rget]
      · have : (y == x) = false := beq_eq_false_iff_ne.mpr c
        simp [rget, this, c]
    · rename_i q
      split at h
      · rename_i r' e
        cases h
        obtain ⟨h1, h2, h3⟩ := rset_spec e
        refine ⟨fun y => ?_, by simp [h2], by simp [h3]⟩
        by_cases c : y = z
        · subst c
          have hne : ¬ y = x := fun q2 => by rw [q2] at q; simp at q
          simp [rget, hne]
        · have : (y == z) = false := beq_eq_false_iff_ne.mpr c
          simp only [rget, this, h1]
      · first | exact no_some h | cases h
/-- the addresses of a block's own names -/
noncomputable def frA (env : Env) (b : Addr) : Prop := b = env.locals ∨ ∃ x, (x, b) ∈ env.cells
/-- those that the block writes -/
noncomputable def frW (env : Env) (cx : Cx) (b : Addr) : Prop := b = env.locals ∨ ∃ x, (x, b) ∈ env.cells ∧ cx.fr.lookup x = none
theorem frW_sub {env : Env} {cx : Cx} {b : Addr} (h : frW env cx b) : frA env b := h.imp id fun ⟨x, a, _⟩ => ⟨x, a⟩
structure EnvOK (h₀ : Heap) (μ : List Addr) (h : Heap) (env : Env) (cx : Cx) (ρ : Rho) : Prop where
  kind : env.scope.kind = .function
  names : env.scope.names = cx.nm
  glob : env.globals = mainGlobals
  blt : env.builtins = builtinsNs
  lout : h₀.get? env.locals = none
  lμ : env.locals ∉ μ
  ns : ∃ m, h.Ns env.locals m ∧ ∀ x V, rget ρ x = some V → cx.nm.lookup x = some .local → ∃ v, m x = some v ∧ Rep h₀ h μ v V
  apart : env.cells.Pairwise fun x y => x.2 ≠ y.2
  cells : ∀ x c, (x, c) ∈ env.cells → h₀.get? c = none ∧ c ∉ μ ∧ ∃ v, h.IsCell c v
  own : ∀ x, x ∈ ρ.map (·.1) → cx.nm.lookup x = some .local ∨ (cx.nm.lookup x = some .cell ∧ (env.cells.lookup x).isSome = true ∧ cx.fr.lookup x = none)
  cellV : ∀ x V, rget ρ x = some V → cx.nm.lookup x = some .cell → ∃ c v, env.cells.lookup x = some c ∧ h.IsCell c (some v) ∧ Rep h₀ h μ v V
  frV : ∀ x V, cx.fr.lookup x = some V → ∃ c v, env.cells.lookup x = some c ∧ h.IsCell c (some v) ∧ Rep h₀ h μ v V
theorem EnvOK.move {h h' : Heap} {ν : List Addr} (K : EnvOK h₀ μ h env cx ρ) (ht : ∀ a items, h.IsTuple a items → h'.IsTuple a items) (hf : ∀ b o, frA env b → h.get? b = some o → h'.get? b = some o)
    (hν : ∀ a ∈ ν, h.get? a = none) : EnvOK h₀ (μ ++ ν) h' env cx ρ := by
  obtain ⟨m, hm, hr⟩ := K.ns
  have hL : ∃ o, h.get? env.locals = some o := let ⟨o, _, _, e, _⟩ := hm; ⟨o, e⟩
  have cell : ∀ {x c v}, (x, c) ∈ env.cells → h.IsCell c v → h'.IsCell c v := fun hc ⟨o, e, d⟩ => ⟨o, hf _ o (.inr ⟨_, hc⟩) e, d⟩
  refine ⟨K.kind, K.names, K.glob, K.blt, K.lout, fun q => ?_, ⟨m, hm.at' fun o e => hf _ o (.inl rfl) e, fun x V e1 e2 => let ⟨v, a, b⟩ := hr x V e1 e2; ⟨v, a, b.grow ht⟩⟩, K.apart, fun x c hc => ?_, K.own, fun x V e1 e2 => ?_, fun x V e1 => ?_⟩
  · rcases List.mem_append.mp q with q | q
    · exact K.lμ q
    · obtain ⟨o, e⟩ := hL; rw [hν _ q] at e; cases e
  · obtain ⟨a, b, v, d⟩ := K.cells x c hc
    refine ⟨a, fun q => ?_, v, cell hc d⟩
    rcases List.mem_append.mp q with q | q
    · exact b q
    · obtain ⟨o, e, _⟩ := d; rw [hν _ q] at e; cases e
  · obtain ⟨c, v, a, b, d⟩ := K.cellV x V e1 e2
    exact ⟨c, v, a, cell (mem_of_lookup a) b, d.grow ht⟩
  · obtain ⟨c, v, a, b, d⟩ := K.frV x V e1
    exact ⟨c, v, a, cell (mem_of_lookup a) b, d.grow ht⟩
theorem EnvOK.frIn (K : EnvOK h₀ μ s.heap env cx ρ) {b : Addr} (f : frA env b) : h₀.get? b = none ∧ b ∉ μ ∧ ∃ o, s.heap.get? b = some o ∧ ((∃ es ep, o.data = .dict es ep) ∨ ∃ v, o.data = .cell v) := by
  rcases f with rfl | ⟨x, hc⟩
  · obtain ⟨m, ⟨o, es, ep, e, d, _⟩, _⟩ := K.ns
    exact ⟨K.lout, K.lμ, o, e, .inl ⟨es, ep, d⟩⟩
  · obtain ⟨a, b, v, o, e, d⟩ := K.cells x _ hc
    exact ⟨a, b, o, e, .inr ⟨v, d⟩⟩
theorem EnvOK.frTup (K : EnvOK h₀ μ s.heap env cx ρ) : ∀ b items, frA env b → ¬ s.heap.IsTuple b items := fun b items f ⟨o, e, _, n, d⟩ => by
  obtain ⟨_, _, o', e', q⟩ := K.frIn f
  rw [e] at e'; cases e'
  rcases q with ⟨es, ep, q⟩ | ⟨v, q⟩ <;> rw [d] at q <;> cases q
theorem EnvOK.fwTup (K : EnvOK h₀ μ s.heap env cx ρ) : ∀ b items, frW env cx b → ¬ s.heap.IsTuple b items := fun b items f => K.frTup b items (frW_sub f)
theorem EnvOK.frFields (K : EnvOK h₀ μ s.heap env cx ρ) {b : Addr} {o : Obj} {vs : Array Value} (e : s.heap.get? b = some o) (d : o.data = .fields vs) : ¬ frA env b := fun f => by
  obtain ⟨_, _, o', e', q⟩ := K.frIn f
  rw [e] at e'; cases e'
  rcases q with ⟨es, ep, q⟩ | ⟨v, q⟩ <;> rw [d] at q <;> cases q
/-- an expression's step keeps the block -/
theorem EnvOK.evo {F : Addr → Prop} {μ' : List Addr} {s' : Shared} (K : EnvOK h₀ μ s.heap env cx ρ) (S : Stt prog w h₀ μ σ s) (a : Evo F μ s μ' s') (hF : ∀ b, F b → ¬ frA env b) (hT : ∀ b items, F b → ¬ s.heap.IsTuple b items) : EnvOK h₀ μ' s'.heap env cx ρ := by
  have ht := a.tup S hT
  obtain ⟨st, ν, rfl, hν⟩ := a
  exact K.move ht (fun b o f e => st.keep b o e fun q => q.elim (K.frIn f).2.1 fun q => hF b q f) hν
theorem EnvOK.evo0 {μ' : List Addr} {s' : Shared} (K : EnvOK h₀ μ s.heap env cx ρ) (S : Stt prog w h₀ μ σ s) (a : Evo noX μ s μ' s') : EnvOK h₀ μ' s'.heap env cx ρ := K.evo S a (fun _ q => q.elim) fun _ _ q => q.elim
theorem kindOf_eq (K : EnvOK h₀ μ s.heap env cx ρ) (x : Str) : env.kindOf x = cx.nm.lookup x := by unfold Env.kindOf; rw [K.names]
/-- after a step of names -/
inductive PN (prog : Program) (w : World) (h₀ : Heap) (μ : List Addr) (σ : Store) (env : Env) (cx : Cx) (s : Shared) (ρ' : Rho) (x : Unit) (s' : Shared) : Prop
  | mk : Stt prog w h₀ μ σ s' → EnvOK h₀ μ s'.heap env cx ρ' → Evo (frW env cx) μ s μ s' → PN prog w h₀ μ σ env cx s ρ' x s'
theorem PN.F {prog : Program} {w : World} {h₀ : Heap} {μ : List Addr} {σ : Store} {env : Env} {cx : Cx} {s : Shared} {ρ' : Rho} {Q : Unit → Shared → Prop} (k : ∀ x s1, Stt prog w h₀ μ σ s1 → EnvOK h₀ μ s1.heap env cx ρ' → Evo (frW env cx) μ s μ s1 → Q x s1) : ∀ x s1, PN prog w h₀ μ σ env cx s ρ' x s1 → Q x s1 := fun x s1 ⟨S1, K1, E1⟩ => k x s1 S1 K1 E1
/-- a plain name is bound -/
theorem store_ok {x : Str} {v : Value} {W : V} (K : EnvOK h₀ μ s.heap env cx ρ) (S : Stt prog w h₀ μ σ s) (r : Rep h₀ s.heap μ v W) (e : rset ρ x W = some ρ') :
    wpAny (model prog w) A (storeName env x v) (PN prog w h₀ μ σ env cx s ρ') noE s := by
  obtain ⟨h1, h2, h3⟩ := rset_spec e
  have hkx := kindOf_eq K x
  -- the end, for either kind
  have fin : ∀ (b : Addr) (h' : Heap) (t : Nat), frW env cx b → Heap.SameBut b s.heap h' → (∃ o, h'.get? b = some o) →
      ((∀ a items, s.heap.IsTuple a items → h'.IsTuple a items) → EnvOK h₀ μ h' env cx ρ') → PN prog w h₀ μ σ env cx s ρ' () { s with heap := h', toks := t } := by
    intro b h' t hb hs ho hk
    have st : Stp (fun b => b ∈ μ ∨ frW env cx b) s { s with heap := h', toks := t } := Stp.sameBut t hs ho (.inr hb)
    have st' : Stp (· = b) s { s with heap := h', toks := t } := Stp.sameBut t hs ho rfl
    obtain ⟨n1, n2, _⟩ := K.frIn (frW_sub hb)
    have ht : ∀ a items, s.heap.IsTuple a items → h'.IsTuple a items := fun a items t0 => by
      obtain ⟨o, e, rr⟩ := id t0
      exact ⟨o, (hs.2 a fun q => K.frTup b items (frW_sub hb) (q ▸ t0)).trans e, rr⟩
    refine ⟨S.stpF st' (fun c q => q ▸ n1) (fun c q => q ▸ n2) (fun c items q => q ▸ K.frTup b items (frW_sub hb)), hk ht, .ofStp st⟩
  obtain ⟨m, hm, hr⟩ := K.ns
  rcases K.own x h3 with hl | ⟨hl, hc, hfr⟩
  · refine wpAny_storeName_local (hkx.trans hl) hm (fun h' hm' hs => ?_) (by rw [K.kind]; rfl)
    have nc : ∀ y c v, (y, c) ∈ env.cells → s.heap.IsCell c v → h'.IsCell c v := fun y c v hc d => by
      obtain ⟨o, e, q⟩ := d
      refine ⟨o, (hs.2 c fun q2 => ?_).trans e, q⟩
      obtain ⟨o', es, ep, e', d', _⟩ := hm
      rw [← q2, e] at e'; cases e'; rw [q] at d'; cases d'
    refine fin env.locals h' _ (.inl rfl) hs (let ⟨o, _, _, e, _⟩ := hm'; ⟨o, e⟩) fun ht => ?_
    refine ⟨K.kind, K.names, K.glob, K.blt, K.lout, K.lμ, ⟨_, hm', fun y V e1 e2 => ?_⟩, K.apart, fun y c hc => let ⟨a, b, v, d⟩ := K.cells y c hc; ⟨a, b, v, nc y c v hc d⟩, fun y hy => K.own y (h2 ▸ hy), fun y V e1 e2 => ?_, fun y V e1 => ?_⟩
    · rw [h1] at e1
      by_cases c : y = x
      · rw [if_pos c] at e1; cases e1
        exact ⟨v, if_pos c, r.moved ht⟩
      · rw [if_neg c] at e1
        obtain ⟨v', a, b⟩ := hr y V e1 e2
        exact ⟨v', (if_neg c).trans a, b.moved ht⟩
    · rw [h1] at e1
      by_cases c : y = x
      · rw [c, hl] at e2; cases e2
      · rw [if_neg c] at e1
        obtain ⟨c', v', a, b, d⟩ := K.cellV y V e1 e2
        exact ⟨c', v', a, nc y c' _ (mem_of_lookup a) b, d.moved ht⟩
    · obtain ⟨c', v', a, b, d⟩ := K.frV y V e1
      exact ⟨c', v', a, nc y c' _ (mem_of_lookup a) b, d.moved ht⟩
  · obtain ⟨c, hc⟩ := Option.isSome_iff_exists.mp hc
    have hmem := mem_of_lookup hc
    obtain ⟨n1, n2, v0, d0⟩ := K.cells x c hmem
    refine wpAny_storeName_cell K.kind (hkx.trans hl) hc d0 fun h' hc' hs => ?_
    have hLc : env.locals ≠ c := fun q => by
      obtain ⟨o, e, d⟩ := d0
      obtain ⟨o', es, ep, e', d', _⟩ := hm
      rw [q, e] at e'; cases e'; rw [d] at d'; cases d'
    have nc : ∀ y c' v, y ≠ x → (y, c') ∈ env.cells → s.heap.IsCell c' v → h'.IsCell c' v := fun y c' v hy hc2 d => by
      obtain ⟨o, e, q⟩ := d
      exact ⟨o, (hs.2 c' fun q2 => hy (name_of_addr K.apart hc2 (q2 ▸ hmem))).trans e, q⟩
    refine fin c h' s.toks (.inr ⟨x, hmem, hfr⟩) hs (let ⟨o, e, _⟩ := hc'; ⟨o, e⟩) fun ht => ?_
    refine ⟨K.kind, K.names, K.glob, K.blt, K.lout, K.lμ, ⟨m, hm.sameBut hs hLc, fun y V e1 e2 => ?_⟩, K.apart, fun y c' hc2 => ?_, fun y hy => K.own y (h2 ▸ hy), fun y V e1 e2 => ?_, fun y V e1 => ?_⟩
    · rw [h1] at e1
      by_cases q : y = x
      · rw [q, hl] at e2; cases e2
      · rw [if_neg q] at e1
        obtain ⟨v', a, b⟩ := hr y V e1 e2
        exact ⟨v', a, b.moved ht⟩
    · obtain ⟨a, b, v', d⟩ := K.cells y c' hc2
      by_cases q : c' = c
      · subst q; exact ⟨a, b, _, hc'⟩
      · obtain ⟨o, e, q3⟩ := d
        exact ⟨a, b, v', o, (hs.2 c' q).trans e, q3⟩
    · rw [h1] at e1
      by_cases q : y = x
      · rw [if_pos q] at e1; cases e1
        exact ⟨c, v, q ▸ hc, hc', r.moved ht⟩
      · rw [if_neg q] at e1
        obtain ⟨c', v', a, b, d⟩ := K.cellV y V e1 e2
        exact ⟨c', v', a, nc y c' _ q (mem_of_lookup a) b, d.moved ht⟩
    · by_cases q : y = x
      · rw [q, hfr] at e1; cases e1
      · obtain ⟨c', v', a, b, d⟩ := K.frV y V e1
        exact ⟨c', v', a, nc y c' _ q (mem_of_lookup a) b, d.moved ht⟩
end Mine
namespace Mine
open PySem PySem.Calls PyProof.Rows
variable {prog : Program} {w : World} {A : Around} {s : Shared} {h₀ : Heap} {μ : List Addr} {σ σ' : Store} {N : Nat} {env : Env} {cx : Cx} {ρ ρ' : Rho} {P : Pg} {mg mb : Str → Option Value} {T : Tb} {ih : Ev}
/-- what the world holds at the start -/
structure Wd (h₀ : Heap) (P : Pg) (mg mb : Str → Option Value) : Prop where
  g : h₀.Ns mainGlobals mg
  b : h₀.Ns builtinsNs mb
  lim : h₀.NoLimit
  sys : ∃ o, h₀.get? sysModules = some o
  fn : ∀ d ∈ P.tbl, ∃ a o pm code doc, mg d.name = some (.ref a) ∧ h₀.get? a = some o ∧ o.data = .func (docDef d.name d.params d.body d.scope pm code doc) ∧ h₀.CodeRec code d.name
  nob : ∀ f b, biOf f = some b → mg f = none
  noEn : mg (Str.ofString "enumerate") = none
  noRa : mg (Str.ofString "range") = none
  bi : ∀ x : Str, x ≠ Str.ofString "__name__" → mb x = bootBuiltins x
  gl : ∀ x V, P.gl x = some V → ∃ v, mg x = some v ∧ Rep h₀ h₀ [] v V
inductive PB (prog : Program) (w : World) (h₀ : Heap) (μ : List Addr) (s : Shared) (σ' : Store) (b r : Bool) (s' : Shared) : Prop
  | mk : r = b → (μ' : List Addr) → Stt prog w h₀ μ' σ' s' → Evo noX μ s μ' s' → PB prog w h₀ μ s σ' b r s'
inductive FlRep (h₀ h : Heap) (μ : List Addr) : Flow → Fl → Prop
  | next : FlRep h₀ h μ .next .next
  | cont : FlRep h₀ h μ .cont .cont
  | ret {v : Value} {W : V} : Rep h₀ h μ v W → FlRep h₀ h μ (.ret v) (.ret W)
inductive PS (prog : Program) (w : World) (h₀ : Heap) (μ : List Addr) (s : Shared) (env : Env) (cx : Cx) (fl : Fl) (ρ' : Rho) (σ' : Store) (f : Flow) (s' : Shared) : Prop
  | mk (μ' : List Addr) : FlRep h₀ s'.heap μ' f fl → Stt prog w h₀ μ' σ' s' → EnvOK h₀ μ' s'.heap env cx ρ' → Evo (frW env cx) μ s μ' s' → PS prog w h₀ μ s env cx fl ρ' σ' f s'
theorem PB.F {prog : Program} {w : World} {h₀ : Heap} {μ : List Addr} {s : Shared} {σ' : Store} {b : Bool} {Q : Bool → Shared → Prop} (k : ∀ r s1, r = b → ∀ μ1, Stt prog w h₀ μ1 σ' s1 → Evo noX μ s μ1 s1 → Q r s1) : ∀ r s1, PB prog w h₀ μ s σ' b r s1 → Q r s1 := fun r s1 ⟨q, μ1, S1, E1⟩ => k r s1 q μ1 S1 E1
theorem PS.F {prog : Program} {w : World} {h₀ : Heap} {μ : List Addr} {s : Shared} {env : Env} {cx : Cx} {fl : Fl} {ρ' : Rho} {σ' : Store} {Q : Flow → Shared → Prop} (k : ∀ f s1 μ1, FlRep h₀ s1.heap μ1 f fl → Stt prog w h₀ μ1 σ' s1 → EnvOK h₀ μ1 s1.heap env cx ρ' → Evo (frW env cx) μ s μ1 s1 → Q f s1) : ∀ f s1, PS prog w h₀ μ s env cx fl ρ' σ' f s1 → Q f s1 := fun f s1 ⟨μ1, f1, S1, K1, E1⟩ => k f s1 μ1 f1 S1 K1 E1
structure Snd (prog : Program) (w : World) (h₀ : Heap) (N : Nat) (ih : Ev) : Prop where
  e : ∀ {A : Around} {cx : Cx} {env : Env} {ρ : Rho} {σ σ' : Store} {s : Shared} {μ : List Addr} {e : Expr} {V : V}, Rm A (N + 3) → Stt prog w h₀ μ σ s → EnvOK h₀ μ s.heap env cx ρ → ih.e cx e ρ σ = some (V, σ') →
    wpAny (model prog w) A (eval e env) (PV prog w h₀ μ s σ' V) noE s
  t : ∀ {A : Around} {cx : Cx} {env : Env} {ρ : Rho} {σ σ' : Store} {s : Shared} {μ : List Addr} {e : Expr} {b : Bool}, Rm A (N + 3) → Stt prog w h₀ μ σ s → EnvOK h₀ μ s.heap env cx ρ → ih.t cx e ρ σ = some (b, σ') →
    wpAny (model prog w) A (isTrue e env (eval e env)) (PB prog w h₀ μ s σ' b) noE s
  s : ∀ {A : Around} {cx : Cx} {env : Env} {ρ ρ' : Rho} {σ σ' : Store} {s : Shared} {μ : List Addr} {e : List Stmt} {fl : Fl}, Rm A (N + 3) → Stt prog w h₀ μ σ s → EnvOK h₀ μ s.heap env cx ρ → ih.s cx e ρ σ = some (fl, ρ', σ') →
    wpAny (model prog w) A (execs e env) (PS prog w h₀ μ s env cx fl ρ' σ') noE s
/-- the table stands for the world -/
structure TbOK (prog : Program) (w : World) (h₀ : Heap) (N : Nat) (mg : Str → Option Value) (T : Tb) : Prop where
  gl : ∀ x V, T.gl x = some V → ∃ v, mg x = some v ∧ Rep h₀ h₀ [] v V
  fn : ∀ f, T.isFn f = true → ∃ a o fd, mg f = some (.ref a) ∧ h₀.get? a = some o ∧ o.data = .func fd
  call : ∀ {A : Around} {f : Str} {a : Addr} {Vs : List V} {vs : List Value} {σ σ' : Store} {s : Shared} {μ : List Addr} {V : V}, Rm A (N + 3) → Stt prog w h₀ μ σ s → RepL h₀ s.heap μ vs Vs → T.isFn f = true → mg f = some (.ref a) →
    T.call f Vs σ = some (V, σ') → wpAny (model prog w) A (call (.ref a) vs []) (PV prog w h₀ μ s σ' V) noE s
theorem PV.after {μ1 : List Addr} {s1 s2 : Shared} {W : V} {r : Value} (E1 : Evo noX μ s μ1 s1) (x : PV prog w h₀ μ1 s1 σ' W r s2) : PV prog w h₀ μ s σ' W r s2 := let ⟨μ2, S, R, E2⟩ := x; ⟨μ2, S, R, E1.tr E2⟩
theorem PB.after {μ1 : List Addr} {s1 s2 : Shared} {b r : Bool} (E1 : Evo noX μ s μ1 s1) (x : PB prog w h₀ μ1 s1 σ' b r s2) : PB prog w h₀ μ s σ' b r s2 := let ⟨q, μ2, S, E2⟩ := x; ⟨q, μ2, S, E1.tr E2⟩
theorem aft {μ1 : List Addr} {s1 : Shared} {m : Sem Value} {W : V} (E1 : Evo noX μ s μ1 s1) (x : wpAny (model prog w) A m (PV prog w h₀ μ1 s1 σ' W) noE s1) : wpAny (model prog w) A m (PV prog w h₀ μ s σ' W) noE s1 :=
  wpAny_mono x (fun _ _ y => y.after E1) fun _ _ y => y
theorem aftB {μ1 : List Addr} {s1 : Shared} {m : Sem Bool} {b : Bool} (E1 : Evo noX μ s μ1 s1) (x : wpAny (model prog w) A m (PB prog w h₀ μ1 s1 σ' b) noE s1) : wpAny (model prog w) A m (PB prog w h₀ μ s σ' b) noE s1 :=
  wpAny_mono x (fun _ _ y => y.after E1) fun _ _ y => y
theorem wm {α : Type} {E : Value → Shared → Prop} {m : Sem α} {Q Q' : α → Shared → Prop} (x : wpAny (model prog w) A m Q noE s) (h : ∀ v s', Q v s' → Q' v s') : wpAny (model prog w) A m Q' E s := wpAny_mono x h fun _ _ y => y.elim
theorem base_tup (S : Stt prog w h₀ μ σ s) : ∀ a items, h₀.IsTuple a items → s.heap.IsTuple a items := fun _ _ ⟨o, h1, r⟩ => ⟨o, S.base _ _ h1, r⟩
theorem rep_base (S : Stt prog w h₀ μ σ s) {v : Value} {W : V} (r : Rep h₀ h₀ [] v W) : Rep h₀ s.heap μ v W := by
  have := r.grow (ν := μ) (base_tup S)
  simpa using this
theorem nameLoad {x : Str} {V' : V} (S : Stt prog w h₀ μ σ s) (K : EnvOK h₀ μ s.heap env cx ρ) (hx : cx.nm.lookup x ≠ some .globalImplicit) (e : name T cx x ρ = some V') {Q : Value → Shared → Prop} (h : ∀ v, Rep h₀ s.heap μ v V' → Q v s) :
    wpAny (model prog w) A (loadName env x) Q noE s := by
  have hk := kindOf_eq K x
  unfold name at e
  split at e
  · rename_i q; exact absurd q hx
  · rename_i q
    obtain ⟨m, hm, hr⟩ := K.ns
    obtain ⟨v, e1, r⟩ := hr x V' e q
    exact wpAny_loadName_local K.kind (hk.trans q) hm e1 (h v r)
  · rename_i q
    split at e
    · rename_i V0 q0
      cases e
      obtain ⟨c, v, hc, hv, r⟩ := K.cellV x V' q0 q
      exact wpAny_loadName_cell K.kind (hk.trans q) hc hv (h v r)
    · obtain ⟨c, v, hc, hv, r⟩ := K.frV x V' e
      exact wpAny_loadName_cell K.kind (hk.trans q) hc hv (h v r)
  · first | exact no_some e | cases e
theorem nameE {x : Str} {V' : V} {p : Pos} (TK : TbOK prog w h₀ N mg T) (hg : h₀.Ns mainGlobals mg) (S : Stt prog w h₀ μ σ s) (K : EnvOK h₀ μ s.heap env cx ρ) (hd : (x == ("__debug__" : Str)) = false) (e : name T cx x ρ = some V') :
    wpAny (model prog w) A (eval (.Name x p) env) (PV prog w h₀ μ s σ V') noE s := by
  by_cases q : cx.nm.lookup x = some .globalImplicit
  · have hk := kindOf_eq K x
    unfold name at e
    rw [q] at e
    obtain ⟨v, e1, r⟩ := TK.gl x V' e
    refine Name_function_global K.kind (hk.trans q) (loadGlobal_global (mg := mg) ?_ e1 (PV.here S (rep_base S r))) hd
    rw [K.glob]; exact hg.keeps S.base
  · exact wpAny_Name (nameLoad S K q e fun v r => PV.here S r) hd
theorem backTo_cons {pos : Pos} {e : Expr} {r : List Expr} (he : ∀ a b, e ≠ .Starred a b) : backTo pos (starEach (e :: r) env) = (false, eval e env) :: backTo pos (starEach r env) := by
  cases e <;> first | rfl | exact absurd rfl (he _ _)
theorem evalL_cons {e : Expr} {r : List Expr} (he : ∀ a b, e ≠ .Starred a b) : evalL ih cx (e :: r) ρ σ = match ih.e cx e ρ σ with
    | some (v, σ1) => match evalL ih cx r ρ σ1 with
      | some (vs, σ2) => some (v :: vs, σ2)
      | .none => .none
    | .none => .none := by
  cases e <;> first | rfl | exact absurd rfl (he _ _)
theorem evalL_star {e : Expr} {r : List Expr} {z : List V × Store} (h : evalL ih cx (e :: r) ρ σ = some z) : ∀ a b, e ≠ .Starred a b := by
  rintro a b rfl
  cases h
theorem evalL_inv {e : Expr} {r : List Expr} {z : List V × Store} (h : evalL ih cx (e :: r) ρ σ = some z) : (∀ a b, e ≠ .Starred a b) ∧ ∃ v σ1 vs, ih.e cx e ρ σ = some (v, σ1) ∧ evalL ih cx r ρ σ1 = some (vs, z.2) ∧ z.1 = v :: vs := by
  have he := evalL_star h
  rw [evalL_cons he] at h
  first | refine obyVS h fun v σ1 h1 h => ?_ | refine obyWS h fun v σ1 h1 h => ?_ | refine obyIS h fun v σ1 h1 h => ?_ | refine obyRS h fun v σ1 h1 h => ?_ | refine obyBS h fun v σ1 h1 h => ?_
  first | refine obyVS h fun vs σ2 h2 h => ?_ | refine obyWS h fun vs σ2 h2 h => ?_ | refine obyIS h fun vs σ2 h2 h => ?_ | refine obyRS h fun vs σ2 h2 h => ?_ | refine obyBS h fun vs σ2 h2 h => ?_
  cases h
  exact ⟨he, v, σ1, vs, h1, h2, rfl⟩
theorem evalL_plain {pos : Pos} : ∀ {es : List Expr} {σ : Store} {z : List V × Store}, evalL ih cx es ρ σ = some z → (backTo pos (starEach es env)).any (·.1) = false ∧ (backTo pos (starEach es env)).length = es.length ∧ (backTo pos (starEach es env)).all (fun x => !x.1) = true
  | [], _, _, _ => ⟨rfl, rfl, rfl⟩
  | e :: r, σ, z, h => by
    obtain ⟨he, v, σ1, vs, h1, h2, _⟩ := evalL_inv h
    obtain ⟨a, b, c⟩ := evalL_plain h2 (pos := pos)
    rw [backTo_cons he]
    exact ⟨by simpa using a, by simp [b], by simpa using c⟩
theorem evalL_ok (H : Snd prog w h₀ N ih) (R : Rm A (N + 3)) (pos : Pos) : ∀ (es : List Expr) {Vs : List V} {σ σ' : Store} {s : Shared} {μ : List Addr}, Stt prog w h₀ μ σ s → EnvOK h₀ μ s.heap env cx ρ → evalL ih cx es ρ σ = some (Vs, σ') →
    wpAny (model prog w) A (spliced (backTo pos (starEach es env))) (fun vs s' => ∃ μ', Stt prog w h₀ μ' σ' s' ∧ RepL h₀ s'.heap μ' vs Vs ∧ Evo noX μ s μ' s') noE s
  | [], Vs, σ, σ', s, μ, S, K, h => by
    cases h
    exact spliced_nil ⟨μ, S, .nil, .refl _ _ _⟩
  | e :: r, Vs, σ, σ', s, μ, S, K, h => by
    obtain ⟨he, v, σ1, vs, h1, h2, q⟩ := evalL_inv h
    cases q
    rw [backTo_cons he]
    refine spliced_cons (wm (H.e R S K h1) fun u s1 ⟨μ1, S1, r1, E1⟩ => ?_)
    refine wm (evalL_ok H R pos r S1 (K.evo0 S E1) h2) fun us s2 ⟨μ2, S2, r2, E2⟩ => ⟨μ2, S2, .cons (E2.rep0 S1 r1) r2, E1.tr E2⟩
theorem evalA_ok (H : Snd prog w h₀ N ih) (R : Rm A (N + 3)) (pos : Pos) {es : List Expr} {Vs : List V} (f : Value) {Q : Args → Shared → Prop} (S : Stt prog w h₀ μ σ s) (K : EnvOK h₀ μ s.heap env cx ρ) (h : evalL ih cx es ρ σ = some (Vs, σ'))
    (hQ : ∀ vs s' μ', Stt prog w h₀ μ' σ' s' → RepL h₀ s'.heap μ' vs Vs → Evo noX μ s μ' s' → Q ⟨vs, []⟩ s') : wpAny (model prog w) A (evalArgs f true (backTo pos (starEach es env)) []) Q noE s := by
  cases es with
  | nil => cases h; exact PySem.evalArgs_none (hQ [] s μ S .nil (.refl _ _ _))
  | cons e r =>
    have := evalL_ok H R pos (e :: r) S K h
    rw [backTo_cons (evalL_star h)] at this ⊢
    exact evalArgs_plain (wm this fun vs s' ⟨μ', S', r', E'⟩ => hQ vs s' μ' S' r' E')
theorem boot_of {f : Str} {b : Bi} (h : biOf f = some b) : bootBuiltins f = some (biVal b) := by
  unfold biOf at h
  repeat' (split at h; · rename_i q; subst q; cases h; rfl)
  cases h
theorem notName {f : Str} {b : Bi} (h : biOf f = some b) : f ≠ Str.ofString "__name__" := by
  rintro rfl
  rw [show biOf (Str.ofString "__name__") = none from rfl] at h
  cases h
theorem biVal_form (b : Bi) : (∃ id, biVal b = .builtin id) ∨ ∃ id, biVal b = .type id := by
  cases b <;> first | exact .inl ⟨_, rfl⟩ | exact .inr ⟨_, rfl⟩
/-- a call of a plain global name -/
theorem callNameE {f : Str} {fp pos : Pos} {args : List Expr} {V' : V} (W : Wd h₀ P mg mb) (TK : TbOK prog w h₀ N mg T) (H : Snd prog w h₀ N ih) (R : Rm A (N + 3)) (S : Stt prog w h₀ μ σ s) (K : EnvOK h₀ μ s.heap env cx ρ)
    (e : stepE T ih cx (.Call (.Name f fp) args [] pos) ρ σ = some (V', σ')) : wpAny (model prog w) A (eval (.Call (.Name f fp) args [] pos) env) (PV prog w h₀ μ s σ' V') noE s := by
  delta stepE at e; dsimp only at e
  first | refine obI e fun hc e => ?_
  obtain ⟨hg, hd, _⟩ := hc
  have hk := (kindOf_eq K f).trans hg
  refine wpAny_Call_NameR ?_
  split at e
  · rename_i hf
    first | refine obyVS e fun vs σ1 ha e => ?_ | refine obyWS e fun vs σ1 ha e => ?_ | refine obyIS e fun vs σ1 ha e => ?_ | refine obyRS e fun vs σ1 ha e => ?_ | refine obyBS e fun vs σ1 ha e => ?_
    obtain ⟨a, o, fd, e1, ho, hdd⟩ := TK.fn f hf
    refine Name_function_global K.kind hk (loadGlobal_global (mg := mg) (by rw [K.glob]; exact W.g.keeps S.base) e1 ?_) hd
    refine callWith_function (o := o) (fd := fd) (evalA_ok H R pos _ S K ha fun us s1 μ1 S1 r1 E1 => ⟨⟨S1.base _ _ ho, hdd⟩, aft E1 (TK.call R S1 r1 hf e1 e)⟩)
  · split at e
    · rename_i b vs σ1 hb ha
      refine Name_function_global K.kind hk (loadGlobal_builtin (mg := mg) (mb := mb) (by rw [K.glob]; exact W.g.keeps S.base) (W.nob f b hb) (by rw [K.blt]; exact W.b.keeps S.base) ((W.bi f (notName hb)).trans (boot_of hb)) ?_) hd
      have fin := evalA_ok H R pos (biVal b) (Q := fun a s₁ => wpAny (model prog w) A (call (biVal b) ([] ++ a.pos) a.kw) (PV prog w h₀ μ s σ' V') noE s₁) S K ha fun us s1 μ1 S1 r1 E1 => aft E1 (bi_ok (N := N + 2) (R) W.sys S1 r1 e)
      have pl := (evalL_plain (env := env) (pos := pos) ha).1
      rcases biVal_form b with ⟨id, hb'⟩ | ⟨id, hb'⟩ <;> rw [hb'] at fin ⊢
      · exact callWith_builtin pl fin
      · exact PySem.callWith_type pl fin
    · first | exact no_some e | cases e
end Mine
namespace Mine
open PySem PySem.Calls PyProof.Rows
variable {prog : Program} {w : World} {A : Around} {s : Shared} {h₀ : Heap} {μ : List Addr} {σ σ' : Store} {N : Nat} {env : Env} {cx : Cx} {ρ ρ' : Rho} {P : Pg} {mg mb : Str → Option Value} {T : Tb} {ih : Ev}
theorem boolE_ok (H : Snd prog w h₀ N ih) (R : Rm A (N + 3)) {op : BoolOp} {pos : Pos} : ∀ (es : List Expr) {V' : V} {σ σ' : Store} {s : Shared} {μ : List Addr}, Stt prog w h₀ μ σ s → EnvOK h₀ μ s.heap env cx ρ → boolE ih cx op es ρ σ = some (V', σ') →
    wpAny (model prog w) A (boolOp pos op (evalEach es env)) (PV prog w h₀ μ s σ' V') noE s
  | [], V', σ, σ', s, μ, S, K, h => by cases h
  | [e], V', σ, σ', s, μ, S, K, h => H.e R S K h
  | e :: e2 :: r, V', σ, σ', s, μ, S, K, h => by
    have go := @boolE_ok H R op pos (e2 :: r)
    show wpAny _ _ (boolOp pos op (eval e env :: eval e2 env :: evalEach r env)) _ _ _
    replace h : (match (generalizing := false) ih.e cx e ρ σ with
      | some (.bool b, σ1) => match (generalizing := false) op, b with
        | .And, false => some (V.bool false, σ1)
        | .Or, true => some (.bool true, σ1)
        | _, _ => boolE ih cx op (e2 :: r) ρ σ1
      | _ => .none) = some (V', σ') := h
    unfold boolOp
    split at h
    · rename_i b σ1 h1
      refine wpAny_bind (wm (H.e R S K h1) fun u s1 ⟨μ1, S1, r1, E1⟩ => ?_)
      have hu : u = .bool b := by cases r1; rfl
      subst hu
      refine wpAny_bind (wpAny_standAt (wpAny_bind (wpAny_holding (wpAny_truthy_bool ?_))))
      split at h
      · cases h; exact wpAny_pure ⟨μ1, S1, r1, E1⟩
      · cases h; exact wpAny_pure ⟨μ1, S1, r1, E1⟩
      · rename_i x1 x2
        have g := aft E1 (go S1 (K.evo0 S E1) h)
        split
        · exact absurd rfl (x1 rfl)
        · exact absurd rfl (x2 rfl)
        · exact g
    · first | exact no_some h | cases h
theorem subscriptE {v sl : Expr} {pos : Pos} {V' Va Vi : V} {σ1 σ2 : Store} (hs : ∀ a b c d, sl ≠ .Slice a b c d) (H : Snd prog w h₀ N ih) (R : Rm A (N + 3)) (S : Stt prog w h₀ μ σ s) (K : EnvOK h₀ μ s.heap env cx ρ)
    (e1 : ih.e cx v ρ σ = some (Va, σ1)) (e2 : ih.e cx sl ρ σ1 = some (Vi, σ2)) (e3 : getitem Va Vi σ2 = some V') :
    wpAny (model prog w) A (eval (.Subscript v sl pos) env) (PV prog w h₀ μ s σ2 V') noE s := by
  rw [eval_Subscript]
  refine wpAny_bind (wm (H.e R S K e1) fun o s1 ⟨μ1, S1, r1, E1⟩ => ?_)
  refine wpAny_bind (wpAny_holding (wm (H.e R S1 (K.evo0 S E1) e2) fun i s2 ⟨μ2, S2, r2, E2⟩ => ?_))
  refine wpAny_bind (wpAny_standAt ?_)
  have ro := E2.rep0 S1 r1
  have hT : ∃ T id, s2.TypeIs o T ∧ typeLookup (.type T) "__getitem__" = pure (some (.builtin id)) := by
    unfold getitem at e3
    split at e3
    · obtain ⟨a, ws, rfl, t, l⟩ := ro.tup_inv
      exact ⟨_, _, t.typeIs, slot_tuple_getitem.lookup⟩
    · obtain ⟨a, rfl, m⟩ := ro.obj_inv
      split at e3
      · rename_i q
        obtain ⟨ws, t, l⟩ := S2.atL m q
        exact ⟨_, _, t.typeIs, slot_list_getitem.lookup⟩
      · first | exact no_some e3 | cases e3
    · obtain ⟨a, rfl, m⟩ := ro.obj_inv
      split at e3
      · rename_i q1 q2
        obtain ⟨xs, x, en⟩ := S2.at m q1
        exact ⟨_, _, x.typeIs, slot_dict_getitem.lookup⟩
      · first | exact no_some e3 | cases e3
    · first | exact no_some e3 | cases e3
  obtain ⟨T', id, hT, hl⟩ := hT
  refine wpAny_bind ?_
  rw [getitemInPython_of_ne hT.not_modules]
  refine wpAny_bind (wpAny_specialOf hT hl ?_)
  have hsub : subscripted sl false o i = operate [o, i] (getItem o i) := by
    cases sl <;> first | rfl | exact absurd rfl (hs _ _ _ _)
  have fin : wpAny (model prog w) A (subscripted sl false o i) (fun r s₃ => wpAny (model prog w) A (letTemporaryGo v o r >>= fun _ => pure r) (PV prog w h₀ μ s σ2 V') noE s₃) noE s2 := by
    rw [hsub]
    refine wpAny_operating (wm (getitem_ok (N := N + 2) R S2 ro r2 e3) fun r s3 ⟨r3, t, q⟩ => wpAny_bind (wpAny_letTemporaryGo (wpAny_pure ?_)))
    subst q
    exact (PV.toks (t := t) S2 r3).after (E1.tr E2)
  first
    | exact wpAny_pure (wpAny_bind fin)
    | exact wpAny_bind (wpAny_pure (wpAny_bind fin))
theorem dictSet_ok (R : Rm A (N + 1)) {n : Nat} {d : Addr} {es : List (List Int × V)} {ep : Nat} {ks : List V} {kk : List Int} {kv v : Value} {W : V} (S : Stt prog w h₀ μ σ s) (m : μ[n]? = some d) (q1 : σ[n]? = some (.dict es ep)) (rk : Rep h₀ s.heap μ kv (.tup ks)) (q2 : intsOf ks = some kk)
    (rv : Rep h₀ s.heap μ v W) (hl : es.length < lim) : wpAny (model prog w) A (dictSet d kv v) (PU prog w h₀ μ s (σ.set n (setD es ep kk W))) noE s := by
  rw [intsOf_at q2] at rk
  obtain ⟨a1, rfl, k1⟩ := rk.key (prog := prog) (w := w)
  obtain ⟨xs, x, en⟩ := S.at m q1
  refine dictSet_E R.u k1 x (by have := en.len; rw [sizeLine_eq]; unfold lim at hl; exact ar2 hl this) fun h' t x' hs => ?_
  have ht := S.tupBut (List.mem_of_getElem? m) hs
  obtain ⟨S', E'⟩ := S.upd (t := t) m hs (cellPut (rv.moved ht) (en.moved ht) x')
  exact ⟨_, S', E'⟩
theorem emptyDict (S : Stt prog w h₀ μ σ s) : Stt prog w h₀ (μ ++ [s.heap.objs.size]) (σ ++ [.dict [] 0]) { s with heap := s.heap.push { cls := .type "dict", data := .dict #[] } } ∧ Evo noX μ s (μ ++ [s.heap.objs.size]) { s with heap := s.heap.push { cls := .type "dict", data := .dict #[] } } :=
  S.alloc (t := s.toks) ⟨[], ⟨_, #[], Heap.get?_push_size _ rfl, ⟨rfl, rfl, rfl⟩, rfl, rfl, by simp, by simp⟩, .nil⟩
theorem last_at (S : Stt prog w h₀ μ σ s) (a : Addr) : (μ ++ [a])[σ.length]? = some a := by rw [← S.len]; simp
end Mine
namespace Mine
open PySem PySem.Calls PyProof.Rows
variable {prog : Program} {w : World} {A : Around} {s : Shared} {h₀ : Heap} {μ : List Addr} {σ σ' : Store} {N : Nat} {env : Env} {cx : Cx} {ρ ρ' : Rho} {P : Pg} {mg mb : Str → Option Value} {T : Tb} {ih : Ev}
theorem compareE {l r : Expr} {op : CmpOp} {a b : V} {c : Bool} {σ1 σ2 : Store} {Q : Value → Shared → Prop} (W : Wd h₀ P mg mb) (H : Snd prog w h₀ N ih) (R : Rm A (N + 3)) (S : Stt prog w h₀ μ σ s) (K : EnvOK h₀ μ s.heap env cx ρ)
    (e1 : ih.e cx l ρ σ = some (a, σ1)) (e2 : ih.e cx r ρ σ1 = some (b, σ2)) (e3 : cmp op a b σ2 = some c) (hQ : ∀ s' μ', Stt prog w h₀ μ' σ2 s' → Evo noX μ s μ' s' → Q (.bool c) s') :
    wpAny (model prog w) A (eval l env) (fun a s₁ => wpAny (model prog w) A (eval r env) (fun b s₂ => wpAny (model prog w) A (compareOp op a b) Q noE s₂) noE s₁) noE s := by
  refine wm (H.e R S K e1) fun u s1 ⟨μ1, S1, r1, E1⟩ => wm (H.e R S1 (K.evo0 S E1) e2) fun v s2 ⟨μ2, S2, r2, E2⟩ => wm (cmp_ok (N := N + 2) R W.sys S2 (E2.rep0 S1 r1) r2 e3) fun x s3 ⟨q, t, q2⟩ => ?_
  subst q; subst q2
  exact hQ _ μ2 (S2.stp0 (Stp.toks _ _ _)) ((E1.tr E2).tr (.ofNo (Stp.toks _ _ _)))
theorem dict1E {k v : Expr} {pos : Pos} {ks : List V} {kk : List Int} {V1 : V} {es : List (List Int × V)} {ep : Nat} {σ1 σ2 : Store} (H : Snd prog w h₀ N ih) (R : Rm A (N + 3)) (S : Stt prog w h₀ μ σ s) (K : EnvOK h₀ μ s.heap env cx ρ)
    (e1 : ih.e cx k ρ (σ ++ [.dict [] 0]) = some (.tup ks, σ1)) (e2 : ih.e cx v ρ σ1 = some (V1, σ2)) (e3 : σ2[σ.length]? = some (.dict es ep)) (e4 : intsOf ks = some kk) (hl : es.length < lim) :
    wpAny (model prog w) A (eval (.Dict [some k] [v] pos) env) (PV prog w h₀ μ s (σ2.set σ.length (setD es ep kk V1)) (.obj σ.length)) noE s := by
  rw [arm_eval_Dict]
  refine wpAny_bind (wpAny_standAt ?_)
  have shp : (evalEachOpt [some k] env).zip ((evalEach [v] env).map fun v => (do let x ← v; standAt pos; pure x : Sem Value)) = [((eval k env, (do let x ← eval v env; standAt pos; pure x : Sem Value)) : Sem Value × Sem Value)].map fun p => (some p.1, p.2) := rfl
  rw [shp, dictDisplay_pairs _ (by simp) (by simp)]
  obtain ⟨S0, E0⟩ := emptyDict S
  have hm : (μ ++ [s.heap.objs.size])[σ.length]? = some s.heap.objs.size := last_at S _
  refine wpAny_bind ?_
  unfold subDict
  refine wpAny_bind (wpAny_alloc ?_)
  refine wpAny_bind (wpAny_holding ?_)
  rw [if_pos (by simp)]
  refine wpAny_bind (evalPairs_cons (wm (H.e R S0 (K.evo0 S E0) e1) fun u s1 ⟨μ1, S1, r1, E1⟩ => wpAny_bind (wm (H.e R S1 ((K.evo0 S E0).evo0 S0 E1) e2) fun v s2 ⟨μ2, S2, r2, E2⟩ => wpAny_bind (wpAny_standAt (wpAny_pure (evalPairs_nil ?_))))))
  refine wpAny_holding ?_
  have hm2 : μ2[σ.length]? = some s.heap.objs.size := by
    obtain ⟨_, ν1, q1, _⟩ := E1
    obtain ⟨_, ν2, q2, _⟩ := E2
    subst q1; subst q2
    rw [List.getElem?_append_left (by simp [S.len]), List.getElem?_append_left (by simp [S.len])]
    exact hm
  have fin := dictSet_ok (N := N + 2) R (kv := u) (v := v) S2 hm2 e3 (E2.rep0 S1 r1) e4 r2 hl
  rw [List.forIn_cons]
  refine wpAny_bind (wpAny_bind (wpAny_bind (wm fin fun _ s3 ⟨μ3, S3, E3⟩ => ?_)))
  have hm3 : μ3[σ.length]? = some s.heap.objs.size := by
    obtain ⟨_, ν3, q3, _⟩ := E3
    subst q3
    rw [List.getElem?_append_left (List.getElem?_eq_some_iff.mp hm2).1]; exact hm2
  refine wpAny_pure ?_
  show wpAny _ _ (forIn [] PUnit.unit _) _ _ _
  rw [List.forIn_nil]
  exact wpAny_pure (wpAny_pure (wpAny_pure (wpAny_pure ⟨μ3, S3, .obj hm3, ((E0.tr E1).tr E2).tr E3⟩)))
theorem sliceE {x : Str} {q p pos : Pos} {cp : Pos} {ck : Nat} {k : Int} {ns : List Int} {σ1 : Store} (H : Snd prog w h₀ N ih) (R : Rm A (N + 3)) (S : Stt prog w h₀ μ σ s) (K : EnvOK h₀ μ s.heap env cx ρ)
    (e1 : ih.e cx (.Name x q) ρ σ = some (.ilist ns, σ1)) (h0 : 0 ≤ k) :
    wpAny (model prog w) A (eval (.Subscript (.Name x q) (.Slice none (some (.Constant (.int k) ck cp)) none p) pos) env) (PV prog w h₀ μ s (σ1 ++ [.list ((ns.take k.toNat).map V.int)]) (.obj σ1.length)) noE s := by
  refine wpAny_Subscript_list_slice (wm (H.e R S K e1) fun o s1 ⟨μ1, S1, r1, E1⟩ => wpAny_pure ?_)
  show wpAny _ _ (eval (.Constant (.int k) ck cp) env) _ _ _
  refine wpAny_Constant_int ?_
  cases r1 with
  | @ilist a vs ns hl hi hsz =>
    have hL : s1.heap.IsList a vs.toArray := by
      obtain ⟨o, h1, r⟩ := hl
      exact ⟨o, S1.base _ _ h1, r⟩
    refine ⟨a, vs.toArray, none, some k, rfl, hL, by simpa using hsz, .none, .int k _, ?_⟩
    have hk : k = ((k.toNat : Nat) : Int) := by exact (Int.toNat_of_nonneg h0).symm
    rw [show slicePick vs.toArray none (some k) none = slicePick vs.toArray none (some (k.toNat : Int)) none from by rw [← hk], slicePick_upto']
    have S2 := S1.stp0 (Stp.push noX s1 { cls := .type "slice", data := .fields #[.none, .int k s1.toks, .none] } (s1.toks + 1))
    have E2 : Evo noX μ1 s1 μ1 { s1 with heap := s1.heap.push { cls := .type "slice", data := .fields #[.none, .int k s1.toks, .none] }, toks := s1.toks + 1 } := .ofNo (Stp.push noX s1 _ _)
    have hr : RepL h₀ ((s1.heap.push { cls := .type "slice", data := .fields #[.none, .int k s1.toks, .none] }).push { cls := .type "list", data := .seq (vs.take k.toNat).toArray }) (μ1 ++ [s1.heap.objs.size + 1]) (vs.take k.toNat) ((ns.take k.toNat).map V.int) := by
      have hlen := hi.length
      refine ⟨by simp [hlen], fun i v W e1 e2 => ?_⟩
      rw [List.getElem?_take] at e1
      first | refine obI e1 fun hik e1 => ?_
      rw [List.getElem?_map, List.getElem?_take, if_pos hik] at e2
      obtain ⟨n, en, rfl⟩ := Option.map_eq_some_iff.mp e2
      obtain ⟨n', t, hv, ht⟩ := hi.at i v e1
      rw [ht] at en; cases en; subst hv
      exact .int _ t
    obtain ⟨S3, E3⟩ := S2.alloc (t := s1.toks + 1) (o := { cls := .type "list", data := .seq (vs.take k.toNat).toArray }) (c := .list ((ns.take k.toNat).map V.int)) ⟨vs.take k.toNat, ⟨_, Heap.get?_push_size _ rfl⟩, by
      rw [Heap.size_push]; exact hr⟩
    rw [Heap.size_push] at S3 E3
    have hm := last_at S1 (s1.heap.objs.size + 1)
    exact ⟨_, by simpa using S3, .obj hm, by simpa using (E1.tr E2).tr E3⟩
end Mine
namespace Mine
open PySem PySem.Calls PyProof.Rows
variable {prog : Program} {w : World} {A : Around} {s : Shared} {h₀ : Heap} {μ : List Addr} {σ σ' : Store} {N : Nat} {env : Env} {cx : Cx} {ρ ρ' : Rho} {P : Pg} {mg mb : Str → Option Value} {T : Tb} {ih : Ev}
theorem listNew {vs : List Value} {Vs : List V} (S : Stt prog w h₀ μ σ s) (r : RepL h₀ s.heap μ vs Vs) : PV prog w h₀ μ s (σ ++ [.list Vs]) (.obj σ.length) (.ref s.heap.objs.size) { s with heap := s.heap.push { cls := .type "list", data := .seq vs.toArray } } := by
  obtain ⟨S3, E3⟩ := S.alloc (t := s.toks) (o := { cls := .type "list", data := .seq vs.toArray }) (c := .list Vs) ⟨vs, ⟨_, Heap.get?_push_size _ rfl⟩, r.grow fun a items t => t.push _⟩
  exact ⟨_, S3, .obj (last_at S _), E3⟩
theorem tupNew {vs : List Value} {Vs : List V} (S : Stt prog w h₀ μ σ s) (r : RepL h₀ s.heap μ vs Vs) : PV prog w h₀ μ s σ (.tup Vs) (.ref s.heap.objs.size) { s with heap := s.heap.push { cls := .type "tuple", data := .seq vs.toArray } } :=
  PV.kept (t := s.toks) S (fun _ _ e => Heap.get?_push_of_some _ e) (.tup' (vs := vs) ⟨_, Heap.get?_push_size _ rfl, rfl, _, rfl⟩ (r.moved fun a items t => t.push _))
theorem methE {x : Str} {q ap p : Pos} {nm : Str} {args : List Expr} {a V' : V} {vs : List V} {σ1 σ2 : Store} (W : Wd h₀ P mg mb) (H : Snd prog w h₀ N ih) (R : Rm A (N + 3)) (S : Stt prog w h₀ μ σ s) (K : EnvOK h₀ μ s.heap env cx ρ)
    (hl : args.length < 20 ∧ (ap.endLine == p.line) = true) (e1 : ih.e cx (.Name x q) ρ σ = some (a, σ1)) (e2 : methPre a nm σ1 = true) (e3 : evalL ih cx args ρ σ1 = some (vs, σ2)) (e4 : methodV a nm vs σ2 = some (V', σ')) :
    wpAny (model prog w) A (eval (.Call (.Attribute (.Name x q) nm ap) args [] p) env) (PV prog w h₀ μ s σ' V') noE s := by
  have hfew : ((backTo p (starEach args env)).all (fun x => !x.1) && (backToKw p (keywordEach [] env)).all (fun x => x.1.isSome)
      && decide (args.length + ([] : List Keyword).length + (if ([] : List Keyword).isEmpty then 0 else 1) < 30)) = true := by
    have h1 := (evalL_plain (env := env) (pos := p) e3).2.2
    have h2 : (backToKw p (keywordEach [] env)).all (fun x => x.1.isSome) = true := rfl
    rw [h1, h2]
    simp
    omega
  have main : ∀ T' id, (nm = Str.ofString "append" ∧ id = "list.append" ∨ nm = Str.ofString "pop" ∧ id = "dict.pop") → (∀ ov s₁ μ₁, Stt prog w h₀ μ₁ σ1 s₁ → Rep h₀ s₁.heap μ₁ ov a → MethAt s₁ ov nm T' id) → PlainAttrs T' → Slot T' nm id → typeOf (.builtin id) = pure (.type "method_descriptor") →
      wpAny (model prog w) A (eval (.Call (.Attribute (.Name x q) nm ap) args [] p) env) (PV prog w h₀ μ s σ' V') noE s := by
    intro T' id hid hM pa slot hty
    refine wpAny_Call_method (T := T') (id := id) rfl hfew hl.2 pa slot hty (wm (H.e R S K e1) fun ov s1 ⟨μ1, S1, r1, E1⟩ => ?_)
    have M := hM ov s1 μ1 S1 r1
    refine ⟨M.ty, M.nod, callWith_builtin (evalL_plain e3).1 (evalA_ok H R p _ S1 (K.evo0 S E1) e3 fun us s2 μ2 S2 r2 E2 => ?_)⟩
    obtain ⟨id2, h2, fin⟩ := meth_ok (N := N + 2) R W.sys S2 (E2.rep0 S1 r1) r2 e4
    have : id2 = id := by
      rcases hid with ⟨a1, a2⟩ | ⟨a1, a2⟩ <;> rcases h2 with ⟨b1, b2⟩ | ⟨b1, b2⟩
      · rw [a2, b2]
      · rw [a1] at b1; exact (append_ne_pop.mp b1).elim
      · rw [a1] at b1; exact (append_ne_pop.mp b1.symm).elim
      · rw [a2, b2]
    subst this
    exact aft (E1.tr E2) fin
  by_cases hn : nm = Str.ofString "append"
  · refine main "list" "list.append" (.inl ⟨hn, rfl⟩) (fun ov s₁ μ₁ S₁ r₁ => ?_) F.plainAttrs_list (hn ▸ slot_list_append) type_list_append
    rcases methPre_ok S₁ r₁ e2 with ⟨_, m⟩ | ⟨h, _⟩
    · exact m
    · exact (append_ne_pop.mp (hn.symm.trans h)).elim
  · have hp : nm = Str.ofString "pop" := by
      unfold methPre at e2
      split at e2
      · split at e2
        · exact absurd (of_decide_eq_true e2) hn
        · exact of_decide_eq_true e2
        · first | exact no_some e2 | cases e2
      · first | exact no_some e2 | cases e2
    refine main "dict" "dict.pop" (.inr ⟨hp, rfl⟩) (fun ov s₁ μ₁ S₁ r₁ => ?_) F.plainAttrs_dict (hp ▸ F.slot_dict_pop) F.type_dict_pop
    rcases methPre_ok S₁ r₁ e2 with ⟨h, _⟩ | ⟨_, m⟩
    · exact absurd h hn
    · exact m
theorem subG {v sl : Expr} {pos : Pos} {V' : V} (hs : ∀ a b c d, sl ≠ .Slice a b c d) (H : Snd prog w h₀ N ih) (R : Rm A (N + 3)) (S : Stt prog w h₀ μ σ s) (K : EnvOK h₀ μ s.heap env cx ρ)
    (h : (match ih.e cx v ρ σ with
      | some (a, σ1) => match ih.e cx sl ρ σ1 with
        | some (i, σ2) => match getitem a i σ2 with
          | some r => some (r, σ2)
          | .none => .none
        | .none => .none
      | .none => .none) = some (V', σ')) : wpAny (model prog w) A (eval (.Subscript v sl pos) env) (PV prog w h₀ μ s σ' V') noE s := by
  first | refine obyVS h fun a σ1 h1 h => ?_ | refine obyWS h fun a σ1 h1 h => ?_ | refine obyIS h fun a σ1 h1 h => ?_ | refine obyRS h fun a σ1 h1 h => ?_ | refine obyBS h fun a σ1 h1 h => ?_
  first | refine obyVS h fun i σ2 h2 h => ?_ | refine obyWS h fun i σ2 h2 h => ?_ | refine obyIS h fun i σ2 h2 h => ?_ | refine obyRS h fun i σ2 h2 h => ?_ | refine obyBS h fun i σ2 h2 h => ?_
  first | refine obxR h fun r h3 h => ?_ | refine obxS h fun r h3 h => ?_ | refine obxV h fun r h3 h => ?_ | refine obxB h fun r h3 h => ?_ | refine obxI h fun r h3 h => ?_ | refine obxL h fun r h3 h => ?_ | refine obxW h fun r h3 h => ?_ | refine obxP h fun r h3 h => ?_
  cases h
  exact subscriptE hs H R S K h1 h2 h3
theorem stepE_ok (W : Wd h₀ P mg mb) (TK : TbOK prog w h₀ N mg T) (H : Snd prog w h₀ N ih) (R : Rm A (N + 3)) (S : Stt prog w h₀ μ σ s) (K : EnvOK h₀ μ s.heap env cx ρ) {e : Expr} {V' : V}
    (hc : isComp e = true → wpAny (model prog w) A (eval e env) (PV prog w h₀ μ s σ' V') noE s) (h : stepE T ih cx e ρ σ = some (V', σ')) : wpAny (model prog w) A (eval e env) (PV prog w h₀ μ s σ' V') noE s := by
  cases e with
  | Constant c k p => -- constants
    delta stepE at h; dsimp only at h
    cases c with
    | none => cases h; exact wpAny_Constant_none (PV.here S .none)
    | bool b => cases h; exact wpAny_Constant_bool (PV.here S (.bool _))
    | int i => cases h; exact wpAny_Constant_int (PV.toks S (.int _ _))
    | str z => cases h; exact wpAny_Constant_str (PV.toks S (.str _ _))
    | _ => exact no_some h
  | Name x p => -- names
    delta stepE at h; dsimp only at h
    split at h
    · first | exact no_some h | cases h
    · rename_i hd
      first | refine obxR h fun v hv h => ?_ | refine obxS h fun v hv h => ?_ | refine obxV h fun v hv h => ?_ | refine obxB h fun v hv h => ?_ | refine obxI h fun v hv h => ?_ | refine obxL h fun v hv h => ?_ | refine obxW h fun v hv h => ?_ | refine obxP h fun v hv h => ?_
      cases h
      exact nameE TK W.g S K hd hv
  | BoolOp op vs p =>
    rw [arm_eval_BoolOp]
    exact boolE_ok H R _ S K h
  | BinOp l op r p => -- BinOp
    delta stepE at h; dsimp only at h
    first | refine obyVS h fun a σ1 h1 h => ?_ | refine obyWS h fun a σ1 h1 h => ?_ | refine obyIS h fun a σ1 h1 h => ?_ | refine obyRS h fun a σ1 h1 h => ?_ | refine obyBS h fun a σ1 h1 h => ?_
    first | refine obyVS h fun b σ2 h2 h => ?_ | refine obyWS h fun b σ2 h2 h => ?_ | refine obyIS h fun b σ2 h2 h => ?_ | refine obyRS h fun b σ2 h2 h => ?_ | refine obyBS h fun b σ2 h2 h => ?_
    refine wpAny_BinOp (wm (H.e R S K h1) fun u s1 ⟨μ1, S1, r1, E1⟩ => wm (H.e R S1 (K.evo0 S E1) h2) fun v s2 ⟨μ2, S2, r2, E2⟩ => ?_)
    exact aft (E1.tr E2) (binop_ok S2 (E2.rep0 S1 r1) r2 h)
  | UnaryOp op x p => -- minus
    cases op with
    | USub =>
      delta stepE at h; dsimp only at h
      split at h
      · rename_i i σ1 h1
        cases h
        refine wpAny_UnaryOp (wm (H.e R S K h1) fun u s1 ⟨μ1, S1, r1, E1⟩ => ?_)
        obtain ⟨t, rfl⟩ := r1.int_inv
        exact PyProof.Rows.neg_int ((PV.toks S1 (.int _ _)).after E1)
      · first | exact no_some h | cases h
    | _ => exact no_some h
  | IfExp c b o p => -- IfExp
    delta stepE at h; dsimp only at h
    split at h
    · rename_i σ1 h1
      refine wpAny_IfExp (wm (H.t R S K h1) fun b s1 ⟨q, μ1, S1, E1⟩ => ?_)
      subst q
      exact aft E1 (H.e R S1 (K.evo0 S E1) h)
    · rename_i σ1 h1
      refine wpAny_IfExp (wm (H.t R S K h1) fun b s1 ⟨q, μ1, S1, E1⟩ => ?_)
      subst q
      exact aft E1 (H.e R S1 (K.evo0 S E1) h)
    · first | exact no_some h | cases h
  | Dict ks vs p =>
    cases ks with
    | nil => cases vs with
      | nil => -- {}
        cases h
        obtain ⟨S0, E0⟩ := emptyDict S
        exact wpAny_Dict_empty ⟨_, S0, .obj (last_at S _), E0⟩
      | cons v vr => exact no_some h
    | cons k kr => cases kr with
      | cons k2 kr => cases k <;> exact no_some h
      | nil => cases k with
        | none => exact no_some h
        | some k => cases vs with
          | nil => exact no_some h
          | cons v vr => cases vr with
            | cons v2 vr => exact no_some h
            | nil => -- {k: v}
              delta stepE at h; dsimp only at h
              split at h
              · rename_i ks σ1 h1
                first | refine obyVS h fun wv σ2 h2 h => ?_ | refine obyWS h fun wv σ2 h2 h => ?_ | refine obyIS h fun wv σ2 h2 h => ?_ | refine obyRS h fun wv σ2 h2 h => ?_ | refine obyBS h fun wv σ2 h2 h => ?_
                split at h
                · rename_i es ep kk h3 h4
                  first | refine obI h fun hl h => ?_
                  cases h
                  exact dict1E H R S K h1 h2 h3 h4 hl
                · first | exact no_some h | cases h
              · first | exact no_some h | cases h
  | List es p => -- lists
    delta stepE at h; dsimp only at h
    first | refine obyVS h fun vs σ1 h1 h => ?_ | refine obyWS h fun vs σ1 h1 h => ?_ | refine obyIS h fun vs σ1 h1 h => ?_ | refine obyRS h fun vs σ1 h1 h => ?_ | refine obyBS h fun vs σ1 h1 h => ?_
    first | refine obI h fun hl h => ?_
    cases h
    refine wpAny_List (wm (evalL_ok H R _ _ S K h1) fun us s1 ⟨μ1, S1, r1, E1⟩ => ⟨by have := r1.len; rw [sizeLine_eq]; unfold lim at hl; exact ar2 hl this, (listNew S1 r1).after E1⟩)
  | Tuple es k p => -- tuples
    delta stepE at h; dsimp only at h
    first | refine obyVS h fun vs σ1 h1 h => ?_ | refine obyWS h fun vs σ1 h1 h => ?_ | refine obyIS h fun vs σ1 h1 h => ?_ | refine obyRS h fun vs σ1 h1 h => ?_ | refine obyBS h fun vs σ1 h1 h => ?_
    first | refine obI h fun hl h => ?_
    cases h
    refine wpAny_Tuple (wm (evalL_ok H R _ _ S K h1) fun us s1 ⟨μ1, S1, r1, E1⟩ => ⟨by have := r1.len; rw [sizeLine_eq]; unfold lim at hl; exact ar2 hl this, (tupNew S1 r1).after E1⟩)
  | ListComp elt gens scope p => exact hc rfl
  | SetComp elt gens scope p => exact hc rfl
  | DictComp k v gens scope p => exact hc rfl
  | Compare l ops rs p => cases ops with
    | nil => exact no_some h
    | cons op ops => cases ops with
      | cons op2 ops => exact no_some h
      | nil => cases rs with
        | nil => exact no_some h
        | cons r rs => cases rs with
          | cons r2 rs => exact no_some h
          | nil => -- Compare
            delta stepE at h; dsimp only at h
            split at h
            · rename_i a σ1 hm h1
              first | refine obyVS h fun b σ2 h2 h => ?_ | refine obyWS h fun b σ2 h2 h => ?_ | refine obyIS h fun b σ2 h2 h => ?_ | refine obyRS h fun b σ2 h2 h => ?_ | refine obyBS h fun b σ2 h2 h => ?_
              first | refine obxR h fun c h3 h => ?_ | refine obxS h fun c h3 h => ?_ | refine obxV h fun c h3 h => ?_ | refine obxB h fun c h3 h => ?_ | refine obxI h fun c h3 h => ?_ | refine obxL h fun c h3 h => ?_ | refine obxW h fun c h3 h => ?_ | refine obxP h fun c h3 h => ?_
              cases h
              exact wpAny_Compare1 (compareE W H R S K h1 h2 h3 fun s' μ' S' E' => ⟨μ', S', .bool _, E'⟩) hm
            · first | exact no_some h | cases h
  | Call f args ks p => cases f with
    | Name f fp => cases ks with
      | cons k kr => exact no_some h
      | nil => exact callNameE W TK H R S K h
    | Attribute o nm ap => cases ks with
      | cons k kr => exact no_some h
      | nil => cases o with
        | Name x q => -- methods
          delta stepE at h; dsimp only at h
          first | refine obI h fun hl h => ?_
          first | refine obyVS h fun a σ1 h1 h => ?_ | refine obyWS h fun a σ1 h1 h => ?_ | refine obyIS h fun a σ1 h1 h => ?_ | refine obyRS h fun a σ1 h1 h => ?_ | refine obyBS h fun a σ1 h1 h => ?_
          split at h
          · rename_i vs σ2 h2 h3
            exact methE W H R S K hl h1 h2 h3 h
          · first | exact no_some h | cases h
        | _ => exact no_some h
    | _ => exact no_some h
  | Subscript v sl p => cases sl with
    | Slice lo up st q => cases lo with
      | some lo => exact no_some h
      | none => cases up with
        | none => exact no_some h
        | some up => cases st with
          | some st => exact no_some h
          | none => cases v with
            | Name x xq => -- a slice
              delta stepE at h; dsimp only at h
              split at h
              · rename_i ns σ1 k _ _ h1
                first | refine obI h fun hk h => ?_
                cases h
                exact sliceE H R S K h1 hk.1
              · first | exact no_some h | cases h
            | _ => exact no_some h
    | _ => exact subG (fun _ _ _ _ q => by cases q) H R S K h
  | _ => exact no_some h
theorem boolT_ok (H : Snd prog w h₀ N ih) (R : Rm A (N + 3)) {op : BoolOp} : ∀ (es : List Expr) {b : Bool} {σ σ' : Store} {s : Shared} {μ : List Addr}, Stt prog w h₀ μ σ s → EnvOK h₀ μ s.heap env cx ρ → boolT ih cx op es ρ σ = some (b, σ') →
    wpAny (model prog w) A (allTrue op es env) (PB prog w h₀ μ s σ' b) noE s
  | [], b, σ, σ', s, μ, S, K, h => by
    cases h
    cases op
    · exact wpAny_allTrue_And_nil ⟨rfl, μ, S, .refl _ _ _⟩
    · exact wpAny_allTrue_Or_nil ⟨rfl, μ, S, .refl _ _ _⟩
  | e :: r, b, σ, σ', s, μ, S, K, h => by
    unfold boolT at h
    first | refine obyVS h fun c σ1 h1 h => ?_ | refine obyWS h fun c σ1 h1 h => ?_ | refine obyIS h fun c σ1 h1 h => ?_ | refine obyRS h fun c σ1 h1 h => ?_ | refine obyBS h fun c σ1 h1 h => ?_
    have go := @boolT_ok H R op r
    cases op
    · refine wpAny_allTrue_And_cons (wm (H.t R S K h1) fun x s1 ⟨q, μ1, S1, E1⟩ => ?_)
      subst q
      cases x
      · cases h; exact ⟨rfl, μ1, S1, E1⟩
      · exact aftB E1 (go S1 (K.evo0 S E1) h)
    · refine wpAny_allTrue_Or_cons (wm (H.t R S K h1) fun x s1 ⟨q, μ1, S1, E1⟩ => ?_)
      subst q
      cases x
      · exact aftB E1 (go S1 (K.evo0 S E1) h)
      · cases h; exact ⟨rfl, μ1, S1, E1⟩
theorem stepT_ok (W : Wd h₀ P mg mb) (H : Snd prog w h₀ N ih) (R : Rm A (N + 3)) (S : Stt prog w h₀ μ σ s) (K : EnvOK h₀ μ s.heap env cx ρ) {e : Expr} {b : Bool}
    (h : stepT T ih cx e ρ σ = some (b, σ')) : wpAny (model prog w) A (isTrue e env (eval e env)) (PB prog w h₀ μ s σ' b) noE s := by
  cases e with
  | UnaryOp op x p => cases op with
    | Not =>
      delta stepT at h; dsimp only at h
      first | refine obyVS h fun c σ1 h1 h => ?_ | refine obyWS h fun c σ1 h1 h => ?_ | refine obyIS h fun c σ1 h1 h => ?_ | refine obyRS h fun c σ1 h1 h => ?_ | refine obyBS h fun c σ1 h1 h => ?_
      cases h
      exact wpAny_isTrue_Not (wm (H.t R S K h1) fun x s1 ⟨q, μ1, S1, E1⟩ => ⟨by rw [q], μ1, S1, E1⟩)
    | _ => exact no_some h
  | BoolOp op vs p => exact wpAny_isTrue_BoolOp (boolT_ok H R _ S K h)
  | Compare l ops rs p => cases ops with
    | nil => exact no_some h
    | cons op ops => cases ops with
      | cons op2 ops => exact no_some h
      | nil => cases rs with
        | nil => exact no_some h
        | cons r rs => cases rs with
          | cons r2 rs => exact no_some h
          | nil =>
            delta stepT at h; dsimp only at h
            split at h
            · rename_i a σ1 hm h1
              first | refine obyVS h fun c σ2 h2 h => ?_ | refine obyWS h fun c σ2 h2 h => ?_ | refine obyIS h fun c σ2 h2 h => ?_ | refine obyRS h fun c σ2 h2 h => ?_ | refine obyBS h fun c σ2 h2 h => ?_
              first | refine obxR h fun d h3 h => ?_ | refine obxS h fun d h3 h => ?_ | refine obxV h fun d h3 h => ?_ | refine obxB h fun d h3 h => ?_ | refine obxI h fun d h3 h => ?_ | refine obxL h fun d h3 h => ?_ | refine obxW h fun d h3 h => ?_ | refine obxP h fun d h3 h => ?_
              cases h
              exact wpAny_isTrue_Compare1 (compareE W H R S K h1 h2 h3 fun s' μ' S' E' => wpAny_truthy_bool ⟨rfl, μ', S', E'⟩) hm
            · first | exact no_some h | cases h
  | Call f args ks p =>
    delta stepT at h; dsimp only at h
    split at h
    · rename_i c σ1 h1
      cases h
      refine wpAny_isTrue_value (wm (H.e R S K h1) fun u s1 ⟨μ1, S1, r1, E1⟩ => ?_)
      cases r1
      exact wpAny_truthy_bool ⟨rfl, μ1, S1, E1⟩
    · first | exact no_some h | cases h
  | _ => exact no_some h
end Mine
namespace Mine
open PySem PySem.Calls PyProof.Rows
variable {prog : Program} {w : World} {A : Around} {s : Shared} {h₀ : Heap} {μ : List Addr} {σ σ' : Store} {N : Nat} {env : Env} {cx : Cx} {ρ ρ' : Rho} {P : Pg} {mg mb : Str → Option Value} {T : Tb} {ih : Ev}
theorem Stt.fresh0 (S : Stt prog w h₀ μ σ s) {b : Addr} (h : s.heap.get? b = none) : h₀.get? b = none := by
  cases q : h₀.get? b with
  | none => rfl
  | some o => rw [S.base _ _ q] at h; cases h
/-- a fresh iterator -/
inductive IterP (prog : Program) (w : World) (h₀ : Heap) (μ : List Addr) (s : Shared) (σ' : Store) (I : It) (r : Value) (s' : Shared) : Prop
  | mk (it : Addr) (ow μ' : List Addr) : r = .ref it → Stt prog w h₀ μ' σ' s' → ItAt h₀ s'.heap μ' it ow I → (∀ b ∈ ow, s.heap.get? b = none) → Evo noX μ s μ' s' → IterP prog w h₀ μ s σ' I r s'
theorem IterP.F {prog : Program} {w : World} {h₀ : Heap} {μ : List Addr} {s : Shared} {σ' : Store} {I : It} {Q : Value → Shared → Prop} (k : ∀ r s1 it ow μ1, r = .ref it → Stt prog w h₀ μ1 σ' s1 → ItAt h₀ s1.heap μ1 it ow I → (∀ b ∈ ow, s.heap.get? b = none) → Evo noX μ s μ1 s1 → Q r s1) : ∀ r s1, IterP prog w h₀ μ s σ' I r s1 → Q r s1 := fun r s1 ⟨it, ow, μ1, q, S1, i, fr, E1⟩ => k r s1 it ow μ1 q S1 i fr E1
theorem iterV_ok (R : Rm A (N + 3)) (W : Wd h₀ P mg mb) {v : Value} {V0 : V} {I : It} (S : Stt prog w h₀ μ σ s) (r : Rep h₀ s.heap μ v V0) (e : iterV V0 σ = some I) : wpAny (model prog w) A (pyIter v) (IterP prog w h₀ μ s σ I) noE s := by
  have fr := S.fresh0 (get_size s.heap)
  have one : ∀ b ∈ [s.heap.objs.size], s.heap.get? b = none := fun b hb => by rw [List.mem_singleton.mp hb]; exact get_size _
  unfold iterV at e
  split at e
  · first | exact no_some e | cases e
    obtain ⟨a, vs, rfl, t, l⟩ := r.tup_inv
    refine wpAny_pyIter_tuple t ⟨s.heap.objs.size, _, μ, rfl, S.stp0 (Stp.push noX s _ s.toks), ⟨rfl, fr, a, vs, t.push _, l.moved fun a items t => t.push _, ⟨_, Heap.get?_push_size _ rfl, rfl, rfl⟩⟩, one, .ofNo (Stp.push noX s _ s.toks)⟩
  · obtain ⟨a, rfl, m⟩ := r.obj_inv
    split at e
    · rename_i q
      cases e
      obtain ⟨ws, t, l⟩ := S.atL m q
      refine wpAny_pyIter_list t ⟨s.heap.objs.size, _, μ, rfl, S.stp0 (Stp.push noX s _ s.toks), ⟨rfl, fr, a, m, ⟨_, Heap.get?_push_size _ rfl, rfl, rfl⟩⟩, one, .ofNo (Stp.push noX s _ s.toks)⟩
    · rename_i es ep q
      cases e
      obtain ⟨xs, x, en⟩ := S.at m q
      refine iter_E (S.noSys W.sys (List.mem_of_getElem? m)) x ⟨s.heap.objs.size, _, μ, rfl, S.stp0 (Stp.push noX s _ s.toks), ⟨rfl, fr, a, m, ⟨_, Heap.get?_push_size _ rfl, rfl, by rw [← en.len]; rfl⟩⟩, one, .ofNo (Stp.push noX s _ s.toks)⟩
    · first | exact no_some e | cases e
  · first | exact no_some e | cases e
theorem IterP.after {μ1 : List Addr} {s1 s2 : Shared} {I : It} {r : Value} (E1 : Evo noX μ s μ1 s1) (x : IterP prog w h₀ μ1 s1 σ' I r s2) : IterP prog w h₀ μ s σ' I r s2 :=
  let ⟨it, ow, μ2, q, S, i, f, E2⟩ := x; ⟨it, ow, μ2, q, S, i, fun b hb => E1.stp.fresh (f b hb), E1.tr E2⟩
theorem aftI {μ1 : List Addr} {s1 : Shared} {m : Sem Value} {I : It} (E1 : Evo noX μ s μ1 s1) (x : wpAny (model prog w) A m (IterP prog w h₀ μ1 s1 σ' I) noE s1) : wpAny (model prog w) A m (IterP prog w h₀ μ s σ' I) noE s1 :=
  wpAny_mono x (fun _ _ y => y.after E1) fun _ _ y => y
theorem evalOne {a : Expr} {V1 : V} {Q : Args → Shared → Prop} (pos : Pos) (f : Value) (H : Snd prog w h₀ N ih) (R : Rm A (N + 3)) (S : Stt prog w h₀ μ σ s) (K : EnvOK h₀ μ s.heap env cx ρ) (e : evalL ih cx [a] ρ σ = some ([V1], σ'))
    (hQ : ∀ v s' μ', Stt prog w h₀ μ' σ' s' → Rep h₀ s'.heap μ' v V1 → Evo noX μ s μ' s' → Q ⟨[v], []⟩ s') :
    wpAny (model prog w) A (evalArgs f true (backTo pos (starEach [a] env)) []) Q noE s := by
  obtain ⟨he, v', σ1, vs, h1, h2, h3⟩ := evalL_inv e
  cases h2
  cases h3
  rw [backTo_cons he]
  exact evalArgs_plain (spliced_cons (wm (H.e R S K h1) fun v s1 ⟨μ1, S1, r1, E1⟩ => spliced_nil (hQ v s1 μ1 S1 r1 E1)))
theorem iterE_ok (W : Wd h₀ P mg mb) (H : Snd prog w h₀ N ih) (R : Rm A (N + 3)) (S : Stt prog w h₀ μ σ s) (K : EnvOK h₀ μ s.heap env cx ρ) {e : Expr} {I : It} (h : iterE T ih cx e ρ σ = some (I, σ')) :
    (∀ x, foldedSetIterable e env x = pure x) ∧ wpAny (model prog w) A (eval e env) (fun x s₁ => wpAny (model prog w) A (pyIter x) (IterP prog w h₀ μ s σ' I) noE s₁) noE s := by
  have gen : ∀ {V0 : V} {σ1 : Store}, ih.e cx e ρ σ = some (V0, σ1) → iterV V0 σ1 = some I → σ1 = σ' → wpAny (model prog w) A (eval e env) (fun x s₁ => wpAny (model prog w) A (pyIter x) (IterP prog w h₀ μ s σ' I) noE s₁) noE s := by
    intro V0 σ1 h1 h2 h3
    subst h3
    exact wm (H.e R S K h1) fun u s1 ⟨μ1, S1, r1, E1⟩ => aftI E1 (iterV_ok R W S1 r1 h2)
  cases e with
  | Call f as ks q => cases f with
    | Name f p => cases as with
      | nil => exact no_some h
      | cons a as => cases as with
        | cons a2 as => exact no_some h
        | nil => cases ks with
          | cons k kr => exact no_some h
          | nil =>
            delta iterE at h; dsimp only at h
            refine ⟨fun x => rfl, ?_⟩
            split at h
            · rename_i hg
              have hk := (kindOf_eq K f).trans hg
              split at h
              · rename_i hf
                subst hf
                have start : ∀ {Q : Value → Shared → Prop}, (∀ g : Unit, (backTo q (starEach [a] env)).any (·.1) = false ∧ wpAny (model prog w) A (evalArgs (.type "enumerate") true (backTo q (starEach [a] env)) []) (fun a s₁ => wpAny (model prog w) A (call (.type "enumerate") ([] ++ a.pos) a.kw) Q noE s₁) noE s) →
                    wpAny (model prog w) A (eval (.Call (.Name (Str.ofString "enumerate") p) [a] [] q) env) Q noE s := fun hQ =>
                  wpAny_Call_NameR (Name_function_global K.kind hk (loadGlobal_builtin (mg := mg) (mb := mb) (by rw [K.glob]; exact W.g.keeps S.base) W.noEn (by rw [K.blt]; exact W.b.keeps S.base) (W.bi _ (by decide +kernel)) (PySem.callWith_type (hQ ()).1 (hQ ()).2)) rfl)
                split at h
                · rename_i vs σ1 h1
                  cases h
                  refine start fun _ => ⟨(evalL_plain h1).1, evalOne q _ H R S K h1 fun v s1 μ1 S1 r1 E1 => ?_⟩
                  obtain ⟨t, ws, rfl, ht, l⟩ := r1.tup_inv
                  refine enum_tup ht fun h' ie it' hsz hk' => wpAny_pyIter_enum ie ?_
                  have St := Stp.kept (X := noX) (s := s1) s1.toks hk'
                  have f1 := get_size s1.heap
                  have f2 : s1.heap.get? (s1.heap.objs.size + 1) = none := by
                    cases q : s1.heap.get? (s1.heap.objs.size + 1) with
                    | none => rfl
                    | some o => exact absurd (Heap.lt_size q) (Nat.not_lt.mpr (Nat.le_succ _))
                  refine (show IterP prog w h₀ μ1 s1 σ' (.enumT vs 0) _ _ from ⟨_, [s1.heap.objs.size + 1, s1.heap.objs.size], μ1, rfl, S1.stp0 St, ⟨_, rfl, S1.fresh0 f2, S1.fresh0 f1, Nat.succ_ne_self _, Nat.zero_le _, .none, t, ws, (let ⟨o, h1, r⟩ := ht; ⟨o, hk' _ _ h1, r⟩), l.moved (fun a items ⟨o, h1, r⟩ => ⟨o, hk' _ _ h1, r⟩), ie, it'⟩, fun b hb => ?_, .ofNo St⟩).after E1
                  rcases List.mem_cons.mp hb with rfl | hb
                  · exact f2
                  · rw [List.mem_singleton.mp hb]; exact f1
                · rename_i n σ1 h1
                  split at h
                  · rename_i ls q1
                    cases h
                    refine start fun _ => ⟨(evalL_plain h1).1, evalOne q _ H R S K h1 fun v s1 μ1 S1 r1 E1 => ?_⟩
                    obtain ⟨t, rfl, m⟩ := r1.obj_inv
                    obtain ⟨ws, ht, l⟩ := S1.atL m q1
                    refine call_enumerate_list ht fun h' ie it' hsz hk' => wpAny_pyIter_enum ie ?_
                    have St := Stp.kept (X := noX) (s := s1) s1.toks hk'
                    have f1 := get_size s1.heap
                    have f2 : s1.heap.get? (s1.heap.objs.size + 1) = none := by
                      cases q : s1.heap.get? (s1.heap.objs.size + 1) with
                      | none => rfl
                      | some o => exact absurd (Heap.lt_size q) (Nat.not_lt.mpr (Nat.le_succ _))
                    refine (show IterP prog w h₀ μ1 s1 σ' (.enumL n 0) _ _ from ⟨_, [s1.heap.objs.size + 1, s1.heap.objs.size], μ1, rfl, S1.stp0 St, ⟨_, rfl, S1.fresh0 f2, S1.fresh0 f1, Nat.succ_ne_self _, .none, t, m, ie, it'⟩, fun b hb => ?_, .ofNo St⟩).after E1
                    rcases List.mem_cons.mp hb with rfl | hb
                    · exact f2
                    · rw [List.mem_singleton.mp hb]; exact f1
                  · first | exact no_some h | cases h
                · first | exact no_some h | cases h
              · split at h
                · rename_i hf
                  subst hf
                  split at h
                  · rename_i n σ1 h1
                    first | refine obI h fun hn h => ?_
                    cases h
                    refine wpAny_Call_NameR (Name_function_global K.kind hk (loadGlobal_builtin (mg := mg) (mb := mb) (by rw [K.glob]; exact W.g.keeps S.base) W.noRa (by rw [K.blt]; exact W.b.keeps S.base) (W.bi _ (by decide +kernel)) (PySem.callWith_type (evalL_plain h1).1 ?_)) rfl)
                    refine evalOne q _ H R S K h1 fun v s1 μ1 S1 r1 E1 => ?_
                    obtain ⟨t, rfl⟩ := r1.int_inv
                    refine call_range_1 (wpAny_pyIter_range (IsRange.new _ _ _ _ _ _ _) (small_one (by decide) (by decide) (by exact ar97 hn) (by exact ar98 hn)) ?_)
                    rw [rangeSize_one]
                    have hl : (if 0 < n then n - 0 else 0) = ((n.toNat : Nat) : Int) := by split <;> omega
                    rw [hl]
                    have S2 := S1.stp0 (Stp.push noX s1 { cls := .type "range", data := .fields #[.int 0 s1.toks, .int n t, .int 1 (s1.toks + 1)] } (s1.toks + 1 + 1))
                    have E2 : Evo noX μ1 s1 μ1 _ := .ofNo (Stp.push noX s1 { cls := .type "range", data := .fields #[.int 0 s1.toks, .int n t, .int 1 (s1.toks + 1)] } (s1.toks + 1 + 1))
                    refine (show IterP prog w h₀ μ1 _ σ' (.range 0 n.toNat) _ _ from ⟨_, _, μ1, rfl, S2.stp0 (Stp.push noX _ _ _), ⟨rfl, S2.fresh0 (get_size _), Heap.get?_push_size _ rfl⟩, fun b hb => by rw [List.mem_singleton.mp hb]; exact get_size _, .ofNo (Stp.push noX _ _ _)⟩).after (E1.tr E2)
                  · first | exact no_some h | cases h
                · first | refine obyVS h fun v σ1 h1 h => ?_ | refine obyWS h fun v σ1 h1 h => ?_ | refine obyIS h fun v σ1 h1 h => ?_ | refine obyRS h fun v σ1 h1 h => ?_ | refine obyBS h fun v σ1 h1 h => ?_
                  first | refine obxR h fun it hi h => ?_ | refine obxS h fun it hi h => ?_ | refine obxV h fun it hi h => ?_ | refine obxB h fun it hi h => ?_ | refine obxI h fun it hi h => ?_ | refine obxL h fun it hi h => ?_ | refine obxW h fun it hi h => ?_ | refine obxP h fun it hi h => ?_
                  cases h
                  exact gen h1 hi rfl
            · first | exact no_some h | cases h
    | _ => exact no_some h
  | Name x p =>
    refine ⟨fun x => rfl, ?_⟩
    delta iterE at h; dsimp only at h
    first | refine obyVS h fun v σ1 h1 h => ?_ | refine obyWS h fun v σ1 h1 h => ?_ | refine obyIS h fun v σ1 h1 h => ?_ | refine obyRS h fun v σ1 h1 h => ?_ | refine obyBS h fun v σ1 h1 h => ?_
    first | refine obxR h fun it hi h => ?_ | refine obxS h fun it hi h => ?_ | refine obxV h fun it hi h => ?_ | refine obxB h fun it hi h => ?_ | refine obxI h fun it hi h => ?_ | refine obxL h fun it hi h => ?_ | refine obxW h fun it hi h => ?_ | refine obxP h fun it hi h => ?_
    cases h
    exact gen h1 hi rfl
  | Tuple ts k p =>
    refine ⟨fun x => rfl, ?_⟩
    delta iterE at h; dsimp only at h
    first | refine obyVS h fun v σ1 h1 h => ?_ | refine obyWS h fun v σ1 h1 h => ?_ | refine obyIS h fun v σ1 h1 h => ?_ | refine obyRS h fun v σ1 h1 h => ?_ | refine obyBS h fun v σ1 h1 h => ?_
    first | refine obxR h fun it hi h => ?_ | refine obxS h fun it hi h => ?_ | refine obxV h fun it hi h => ?_ | refine obxB h fun it hi h => ?_ | refine obxI h fun it hi h => ?_ | refine obxL h fun it hi h => ?_ | refine obxW h fun it hi h => ?_ | refine obxP h fun it hi h => ?_
    cases h
    exact gen h1 hi rfl
  | Subscript a b p =>
    refine ⟨fun x => rfl, ?_⟩
    delta iterE at h; dsimp only at h
    first | refine obyVS h fun v σ1 h1 h => ?_ | refine obyWS h fun v σ1 h1 h => ?_ | refine obyIS h fun v σ1 h1 h => ?_ | refine obyRS h fun v σ1 h1 h => ?_ | refine obyBS h fun v σ1 h1 h => ?_
    first | refine obxR h fun it hi h => ?_ | refine obxS h fun it hi h => ?_ | refine obxV h fun it hi h => ?_ | refine obxB h fun it hi h => ?_ | refine obxI h fun it hi h => ?_ | refine obxL h fun it hi h => ?_ | refine obxW h fun it hi h => ?_ | refine obxP h fun it hi h => ?_
    cases h
    exact gen h1 hi rfl
  | _ => exact no_some h
end Mine
namespace Mine
open PySem PySem.Calls PyProof.Rows
variable {prog : Program} {w : World} {A : Around} {s : Shared} {h₀ : Heap} {μ : List Addr} {σ σ' : Store} {N : Nat} {env : Env} {cx : Cx} {ρ ρ' : Rho} {P : Pg} {mg mb : Str → Option Value} {T : Tb} {ih : Ev}
theorem EnvOK.ext {h : Heap} {ρ1 ρ2 : Rho} (K : EnvOK h₀ μ h env cx ρ1) (h1 : ∀ y, rget ρ1 y = rget ρ2 y) (h2 : ρ1.map (·.1) = ρ2.map (·.1)) : EnvOK h₀ μ h env cx ρ2 :=
  ⟨K.kind, K.names, K.glob, K.blt, K.lout, K.lμ, let ⟨m, a, b⟩ := K.ns; ⟨m, a, fun x V e => b x V ((h1 x).trans e)⟩, K.apart, K.cells, fun x hx => K.own x (h2 ▸ hx), fun x V e => K.cellV x V ((h1 x).trans e), K.frV⟩
theorem setNames_inv {t : Expr} {ts : List Expr} {Vs : List V} (h : setNames (t :: ts) Vs ρ = some ρ') : ∃ x p v Vs' ρ1, t = .Name x p ∧ Vs = v :: Vs' ∧ rset ρ x v = some ρ1 ∧ setNames ts Vs' ρ1 = some ρ' := by
  cases Vs with
  | nil => cases t <;> exact no_some h
  | cons v Vs' =>
    cases t with
    | Name x p =>
      replace h : (match rset ρ x v with
        | some ρ1 => setNames ts Vs' ρ1
        | none => none) = some ρ' := h
      first | refine obxR h fun ρ1 h1 h => ?_ | refine obxS h fun ρ1 h1 h => ?_ | refine obxV h fun ρ1 h1 h => ?_ | refine obxB h fun ρ1 h1 h => ?_ | refine obxI h fun ρ1 h1 h => ?_ | refine obxL h fun ρ1 h1 h => ?_ | refine obxW h fun ρ1 h1 h => ?_ | refine obxP h fun ρ1 h1 h => ?_
      exact ⟨x, p, v, Vs', ρ1, rfl, rfl, h1, h⟩
    | _ => exact no_some h
theorem bindP_inv {x : Str} {ns : List Str} {Vs : List V} (h : bindP (x :: ns) Vs ρ = some ρ') : ∃ v Vs' ρ1, Vs = v :: Vs' ∧ rset ρ x v = some ρ1 ∧ bindP ns Vs' ρ1 = some ρ' := by
  cases Vs with
  | nil => cases h
  | cons v Vs' =>
    simp only [bindP] at h
    first | refine obxR h fun ρ1 h1 h => ?_ | refine obxS h fun ρ1 h1 h => ?_ | refine obxV h fun ρ1 h1 h => ?_ | refine obxB h fun ρ1 h1 h => ?_ | refine obxI h fun ρ1 h1 h => ?_ | refine obxL h fun ρ1 h1 h => ?_ | refine obxW h fun ρ1 h1 h => ?_ | refine obxP h fun ρ1 h1 h => ?_
    exact ⟨v, Vs', ρ1, rfl, h1, h⟩
theorem setNames_ok : ∀ (ts : List Expr) {vs : List Value} {Vs : List V} {ρ ρ' : Rho} {s : Shared}, Stt prog w h₀ μ σ s → EnvOK h₀ μ s.heap env cx ρ → RepL h₀ s.heap μ vs Vs → setNames ts Vs ρ = some ρ' →
    wpAny (model prog w) A (assignInOrder ((assignEach ts env).map (·.2)) vs) (PN prog w h₀ μ σ env cx s ρ') noE s
  | [], vs, Vs, ρ, ρ', s, S, K, r, h => by
    cases Vs with
    | nil =>
      have : vs = [] := List.length_eq_zero_iff.mp r.len
      subst this
      cases h
      exact wpAny_assignInOrder_none ⟨S, K, .refl _ _ _⟩
    | cons => cases h
  | t :: ts, vs, Vs, ρ, ρ', s, S, K, r, h => by
    obtain ⟨x, p, v, Vs', ρ1, rfl, rfl, h1, h⟩ := setNames_inv h
    cases vs with
    | nil => cases r.len
    | cons u us =>
      show wpAny _ _ (assignInOrder (assign (.Name x p) env :: (assignEach ts env).map (·.2)) (u :: us)) _ _ _
      refine wpAny_assignInOrder_more (wpAny_assign_Name (wm (store_ok K S r.head h1) fun _ s1 ⟨S1, K1, E1⟩ => ?_))
      exact wm (setNames_ok ts S1 K1 (E1.repL S K.fwTup r.tail) h) fun _ s2 ⟨S2, K2, E2⟩ => ⟨S2, K2, E1.tr E2⟩
theorem bindP_ok : ∀ (ns : List Str) {vs : List Value} {Vs : List V} {ρ ρ' : Rho} {s : Shared}, Stt prog w h₀ μ σ s → EnvOK h₀ μ s.heap env cx ρ → RepL h₀ s.heap μ vs Vs → bindP ns Vs ρ = some ρ' →
    wpAny (model prog w) A (assignInOrder (ns.map fun n => bindName env n) vs) (PN prog w h₀ μ σ env cx s ρ') noE s
  | [], vs, Vs, ρ, ρ', s, S, K, r, h => by
    cases Vs with
    | nil =>
      have : vs = [] := List.length_eq_zero_iff.mp r.len
      subst this
      cases h
      exact wpAny_assignInOrder_none ⟨S, K, .refl _ _ _⟩
    | cons => cases h
  | x :: ns, vs, Vs, ρ, ρ', s, S, K, r, h => by
    obtain ⟨v, Vs', ρ1, rfl, h1, h⟩ := bindP_inv h
    cases vs with
    | nil => cases r.len
    | cons u us =>
      rw [List.map_cons]
      refine wpAny_assignInOrder_more (wpAny_bindName (wm (store_ok K S r.head h1) fun _ s1 ⟨S1, K1, E1⟩ => ?_))
      exact wm (bindP_ok ns S1 K1 (E1.repL S K.fwTup r.tail) h) fun _ s2 ⟨S2, K2, E2⟩ => ⟨S2, K2, E1.tr E2⟩
theorem bindP_setNames : ∀ {ts : List Expr} {Vs : List V} {ρ ρ' : Rho}, setNames ts Vs ρ = some ρ' → bindP (namesOfT ts) Vs ρ = some ρ' ∧ (namesOfT ts).length = ts.length
  | [], [], _, _, h => ⟨h, rfl⟩
  | [], _ :: _, _, _, h => by cases h
  | t :: ts, Vs, ρ, ρ', h => by
    obtain ⟨x, p, v, Vs', ρ1, rfl, rfl, h1, h⟩ := setNames_inv h
    obtain ⟨a, b⟩ := bindP_setNames h
    refine ⟨?_, show (namesOfT ts).length + 1 = ts.length + 1 by rw [b]⟩
    show bindP (x :: namesOfT ts) (v :: Vs') ρ = _
    unfold bindP
    rw [h1]
    exact a
theorem bindP_spec : ∀ {ns : List Str} {Vs : List V} {ρ ρ' : Rho}, bindP ns Vs ρ = some ρ' → ns.Nodup → ns.length = Vs.length ∧ ρ'.map (·.1) = ρ.map (·.1) ∧ (∀ n ∈ ns, n ∈ ρ.map (·.1)) ∧ (∀ y, y ∉ ns → rget ρ' y = rget ρ y) ∧ ∀ (i : Nat) (n : Str) (W : V), ns[i]? = some n → Vs[i]? = some W → rget ρ' n = some W
  | [], [], _, _, h, _ => by cases h; exact ⟨rfl, rfl, by simp, fun _ _ => rfl, by simp⟩
  | [], _ :: _, _, _, h, _ => by cases h
  | _ :: _, [], _, _, h, _ => by cases h
  | x :: ns, v :: Vs, ρ, ρ', h, hn => by
    unfold bindP at h
    first | refine obxR h fun ρ1 h1 h => ?_ | refine obxS h fun ρ1 h1 h => ?_ | refine obxV h fun ρ1 h1 h => ?_ | refine obxB h fun ρ1 h1 h => ?_ | refine obxI h fun ρ1 h1 h => ?_ | refine obxL h fun ρ1 h1 h => ?_ | refine obxW h fun ρ1 h1 h => ?_ | refine obxP h fun ρ1 h1 h => ?_
    obtain ⟨g1, g2, g3⟩ := rset_spec h1
    obtain ⟨hx, hn'⟩ := List.nodup_cons.mp hn
    obtain ⟨a, b, c, d, e⟩ := bindP_spec h hn'
    refine ⟨by simp [a], b.trans g2, fun n hm => ?_, fun y hy => ?_, fun i n W e1 e2 => ?_⟩
    · rcases List.mem_cons.mp hm with rfl | hm
      · exact g3
      · exact g2 ▸ c n hm
    · rw [d y fun q => hy (List.mem_cons_of_mem _ q), g1, if_neg fun q => hy (by rw [q]; exact List.mem_cons_self)]
    · cases i with
      | zero =>
        simp at e1 e2
        subst e1; subst e2
        rw [d _ hx, g1, if_pos rfl]
      | succ i => exact e i n W (by simpa using e1) (by simpa using e2)
theorem rset_total : ∀ {ρ : Rho} {x : Str} (W : V), x ∈ ρ.map (·.1) → ∃ ρ', rset ρ x W = some ρ'
  | [], x, _, h => by cases h
  | (y, v) :: r, x, W, h => by
    unfold rset
    split
    · exact ⟨_, rfl⟩
    · rename_i q
      have hx : x ∈ r.map (·.1) := by
        rcases List.mem_cons.mp h with e | e
        · subst e; simp at q
        · exact e
      obtain ⟨r', e⟩ := rset_total W hx
      rw [e]; exact ⟨_, rfl⟩
theorem bindP_total : ∀ {ns : List Str} {Vs : List V} {ρ : Rho}, ns.length = Vs.length → (∀ n ∈ ns, n ∈ ρ.map (·.1)) → ∃ ρ', bindP ns Vs ρ = some ρ'
  | [], [], ρ, _, _ => ⟨ρ, rfl⟩
  | [], _ :: _, _, h, _ => by cases h
  | _ :: _, [], _, h, _ => by cases h
  | x :: ns, v :: Vs, ρ, h, hm => by
    obtain ⟨ρ1, h1⟩ := rset_total v (hm x List.mem_cons_self)
    unfold bindP
    rw [h1]
    exact bindP_total (by simpa using h) fun n hn => (rset_spec h1).2.1 ▸ hm n (List.mem_cons_of_mem _ hn)
theorem nodup_rev {ns : List Str} (hn : ns.Nodup) : ns.reverse.Nodup := by
  unfold List.Nodup
  rw [List.pairwise_reverse]
  exact List.Pairwise.imp (fun h q => h q.symm) hn
theorem bindP_rev {ns : List Str} {Vs : List V} {ρ ρ' : Rho} (h : bindP ns Vs ρ = some ρ') (hn : ns.Nodup) : ∃ ρ'', bindP ns.reverse Vs.reverse ρ = some ρ'' ∧ (∀ y, rget ρ'' y = rget ρ' y) ∧ ρ''.map (·.1) = ρ'.map (·.1) := by
  obtain ⟨a, b, c, d, e⟩ := bindP_spec h hn
  obtain ⟨ρ'', h2⟩ := bindP_total (ns := ns.reverse) (Vs := Vs.reverse) (ρ := ρ) (by simp [a]) fun n hm => c n (List.mem_reverse.mp hm)
  obtain ⟨_, b2, _, d2, e2⟩ := bindP_spec h2 (nodup_rev hn)
  refine ⟨ρ'', h2, fun y => ?_, b2.trans b.symm⟩
  by_cases hy : y ∈ ns
  · obtain ⟨i, hi⟩ := List.mem_iff_getElem?.mp hy
    have hl : i < ns.length := (List.getElem?_eq_some_iff.mp hi).1
    have hV : Vs[i]? = some Vs[i] := List.getElem?_eq_getElem (a ▸ hl)
    rw [e i y _ hi hV]
    refine e2 (ns.length - 1 - i) y _ ?_ ?_
    · rw [List.getElem?_reverse (by exact Nat.sub_one_sub_lt_of_lt hl)]; rw [show ns.length - 1 - (ns.length - 1 - i) = i by exact Nat.sub_sub_self (Nat.le_sub_one_of_lt hl)]; exact hi
    · rw [List.getElem?_reverse (by exact ar82 a hl)]; rw [show Vs.length - 1 - (ns.length - 1 - i) = i by exact ar83 a hl]; exact hV
  · rw [d2 y (fun q => hy (List.mem_reverse.mp q)), d y hy]
theorem extNew {h' : Heap} (S : Stt prog w h₀ μ σ s) (he : Heap.ExtBut s.heap.objs.size s.heap h') : Stt prog w h₀ μ σ { s with heap := h' } ∧ Evo noX μ s μ { s with heap := h' } := by
  have hk : ∀ b o, s.heap.get? b = some o → h'.get? b = some o := fun b o e => he b o (Nat.ne_of_lt (Heap.lt_size e)) e
  exact ⟨S.stp0 (Stp.kept s.toks hk), .ofNo (Stp.kept s.toks hk)⟩
theorem assignEach_simple : ∀ {ts : List Expr} {Vs : List V} {ρ ρ' : Rho}, setNames ts Vs ρ = some ρ' → (assignEach ts env).length = Vs.length ∧ (assignEach ts env).findIdx? (·.1) = none
  | [], [], _, _, _ => ⟨rfl, rfl⟩
  | [], _ :: _, _, _, h => by cases h
  | t :: ts, Vs, ρ, ρ', h => by
    obtain ⟨x, p, v, Vs', ρ1, rfl, rfl, h1, h⟩ := setNames_inv h
    obtain ⟨a, b⟩ := assignEach_simple h
    show (((false, assign (.Name x p) env) :: assignEach ts env)).length = _ ∧ (((false, assign (.Name x p) env) :: assignEach ts env)).findIdx? (·.1) = none
    refine ⟨by simp [a], ?_⟩
    rw [List.findIdx?_cons]
    simp [b]
/-- a target of a loop, a clause or a statement -/
theorem assignT_ok (R : Rm A (N + 3)) {t : Expr} {v : Value} {V0 : V} (S : Stt prog w h₀ μ σ s) (K : EnvOK h₀ μ s.heap env cx ρ) (r : Rep h₀ s.heap μ v V0) (h : assignT t V0 ρ = some ρ') :
    wpAny (model prog w) A (assign t env v) (PN prog w h₀ μ σ env cx s ρ') noE s := by
  cases t with
  | Name x p => exact wpAny_assign_Name (store_ok K S r h)
  | Tuple ts k p => cases V0 with
    | tup vs =>
      obtain ⟨a, us, rfl, ht, l⟩ := r.tup_inv
      obtain ⟨g1, g2⟩ := assignEach_simple (env := env) h
      refine wpAny_assign_Tuple R.hh ht (by rw [g1]; simp [l.len]) g2 fun h' he => ?_
      obtain ⟨S1, E1⟩ := extNew S he
      exact wm (setNames_ok _ S1 (K.evo0 S E1) (by simpa using E1.repL0 S l) h) fun _ s2 ⟨S2, K2, E2⟩ => ⟨S2, K2, E1.up.tr E2⟩
    | _ => exact no_some h
  | _ => exact no_some h
theorem filterNames {ts : List Expr} (p : Str → Pos → Bool) (hs : simpleTargets ts = true) : (ts.filterMap fun | .Name id pos => if p id pos then some id else none | _ => none).length = ts.length →
    (ts.filterMap fun | .Name id pos => if p id pos then some id else none | _ => none) = namesOfT ts := by
  induction ts with
  | nil => intro _; rfl
  | cons t ts ihn =>
    cases t with
    | Name x q =>
      intro h
      have hle := List.length_filterMap_le (fun | Expr.Name id pos => if p id pos = true then some id else none | _ => none) ts
      by_cases c : p x q = true
      · simp only [List.filterMap_cons, c, if_true] at h ⊢
        have hs' : simpleTargets ts = true := hs
        rw [ihn hs' (by simpa using h)]
        rfl
      · simp only [List.filterMap_cons, c, Bool.false_eq_true, if_false] at h
        simp at h
        omega
    | _ => cases hs
theorem swapped_cases {ts : List Expr} {k : Nat} {p : Pos} {e : Expr} (hs : simpleTargets ts = true) (ht : tupleOk e = true) : swappedStores [.Tuple ts k p] e env = pure none ∨ swappedStores [.Tuple ts k p] e env = pure (some (namesOfT ts)) := by
  unfold swappedStores
  cases e with
  | Tuple vs k2 p2 =>
    dsimp only
    split
    · exact .inl rfl
    · split
      · exact .inl rfl
      · split
        · exact .inl rfl
        · rename_i h3
          split
          · exact .inl rfl
          · rename_i h4
            split
            · rename_i h5
              have ht : (!(vs.all (constantsAlone 8)) || vs.all (foldedForSure 8)) = true := ht
              rw [h5, Bool.not_true, Bool.false_or] at ht
              exact absurd ht h4
            · refine .inr ?_
              have hlen : (ts.filterMap fun | .Name id pos => if env.kindOf id == some .local && pos.line == (ts.head?.map (·.pos.line)).getD 0 then some id else none | _ => none).length = ts.length := by
                have := h3
                simp only [bne_iff_ne, ne_eq, Bool.or_eq_true, not_or, Decidable.not_not] at this
                exact this.1
              have := filterNames (fun id pos => env.kindOf id == some .local && pos.line == (ts.head?.map (·.pos.line)).getD 0) hs hlen
              exact congrArg (fun z => (pure (some z) : Sem (Option (List Str)))) this
  | _ => exact .inl rfl
end Mine
namespace Mine
open PySem PySem.Calls PyProof.Rows
variable {prog : Program} {w : World} {A : Around} {s : Shared} {h₀ : Heap} {μ : List Addr} {σ σ' : Store} {N : Nat} {env : Env} {cx : Cx} {ρ ρ' : Rho} {P : Pg} {mg mb : Str → Option Value} {T : Tb} {ih : Ev}
/-- what a loop has done since its start -/
noncomputable abbrev loX (env : Env) (cx : Cx) (ow : List Addr) : Addr → Prop := fun b => frW env cx b ∨ b ∈ ow
theorem Evo.dry {F : Addr → Prop} {ow : List Addr} {μ μ' : List Addr} {s0 s s' : Shared} (E0 : Evo (fun b => F b ∨ b ∈ ow) μ s0 μ' s) (hf : ∀ b ∈ ow, s0.heap.get? b = none) (d : Dry ow s s') : Evo F μ s0 μ' s' := by
  obtain ⟨h', rfl, j, hj, hx⟩ := d
  obtain ⟨⟨⟨h1, t1, rfl⟩, kp, lv⟩, gr⟩ := E0
  have nj : ∀ b o, s0.heap.get? b = some o → b ≠ j := fun b o e q => by rw [q, hf j hj] at e; cases e
  refine ⟨⟨⟨h', t1, rfl⟩, fun b o e n => ?_, fun b o e => ?_⟩, gr⟩
  · refine hx b o (nj b o e) (kp b o e fun q => ?_)
    rcases q with q | q | q
    · exact n (.inl q)
    · exact n (.inr q)
    · rw [hf b q] at e; cases e
  · obtain ⟨o', e'⟩ := lv b o e
    exact ⟨o', hx b o' (nj b o e) e'⟩
theorem frA_ow (K : EnvOK h₀ μ s.heap env cx ρ) {ow : List Addr} (hw : ∀ b ∈ ow, h₀.get? b = none ∧ ∃ o vs, s.heap.get? b = some o ∧ o.data = .fields vs) {b : Addr} (hb : b ∈ ow) : ¬ frA env b := by
  obtain ⟨_, o, vs, e, d⟩ := hw b hb
  exact K.frFields e d
theorem EnvOK.owned (S : Stt prog w h₀ μ σ s) (K : EnvOK h₀ μ s.heap env cx ρ) {ow : List Addr} (hw : ∀ b ∈ ow, h₀.get? b = none ∧ ∃ o vs, s.heap.get? b = some o ∧ o.data = .fields vs) {h' : Heap} (hk : ∀ b o, b ∉ ow → s.heap.get? b = some o → h'.get? b = some o) : EnvOK h₀ μ h' env cx ρ := by
  have ht := (S.owned hw (t := s.toks) hk).2
  have := K.move (ν := []) ht (fun b o f e => hk b o (fun q => frA_ow K hw q f) e) (by simp)
  rwa [List.append_nil] at this
theorem dryEnd (S : Stt prog w h₀ μ σ s) (K : EnvOK h₀ μ s.heap env cx ρ) {ow : List Addr} {s' : Shared} (hw : ∀ b ∈ ow, h₀.get? b = none ∧ ∃ o vs, s.heap.get? b = some o ∧ o.data = .fields vs) (d : Dry ow s s') : Stt prog w h₀ μ σ s' ∧ EnvOK h₀ μ s'.heap env cx ρ := by
  obtain ⟨h', rfl, j, hj, hx⟩ := d
  have hk : ∀ b o, b ∉ ow → s.heap.get? b = some o → h'.get? b = some o := fun b o n e => hx b o (fun q => n (q ▸ hj)) e
  exact ⟨(S.owned hw (t := s.toks) hk).1, K.owned S hw hk⟩
/-- one draw, bound to the target -/
theorem drawn_ok (R : Rm A (N + 3)) {it : Addr} {ow : List Addr} {I I' : It} {V' : V} {tgt : Expr} {v : Value} {s1 s0 : Shared} {μ0 : List Addr} (K : EnvOK h₀ μ s.heap env cx ρ) (S : Stt prog w h₀ μ σ s) (x : ItAt h₀ s.heap μ it ow I)
    (E0 : Evo (loX env cx ow) μ0 s0 μ s) (h1 : assignT tgt V' ρ = some ρ')
    (hd : wpAny (model prog w) A (letOwnedTupleGo tgt (.ref it) v) (fun _ s'' => Drew prog w h₀ μ σ it ow s V' I' v s'') noE s1) {Q : Unit → Shared → Prop}
    (hQ : ∀ s2, Stt prog w h₀ μ σ s2 → EnvOK h₀ μ s2.heap env cx ρ' → ItAt h₀ s2.heap μ it ow I' → Evo (loX env cx ow) μ0 s0 μ s2 → Q () s2) :
    wpAny (model prog w) A (letOwnedTupleGo tgt (.ref it) v) (fun _ s₁' => wpAny (model prog w) A (assign tgt env v) Q noE s₁') noE s1 := by
  have hw := x.owned
  refine wm hd fun _ s2 D => ?_
  have K2 : EnvOK h₀ μ s2.heap env cx ρ := K.owned S hw fun b o n e => D.stp.keep b o e n
  refine wm (assignT_ok R D.st K2 D.rep h1) fun _ s3 ⟨S3, K3, E3⟩ => ?_
  have hw2 := D.it.owned
  have it3 : ItAt h₀ s3.heap μ it ow I' := D.it.keep0 (E3.tup D.st K2.fwTup) fun b hb o e => E3.keep e (let ⟨_, o', vs, e', d⟩ := hw2 b hb; D.st.notFields e' d) (fun q => frA_ow K2 hw2 hb (frW_sub q))
  have E2 : Evo (loX env cx ow) μ s μ s2 := .ofStp (D.stp.mono fun b q => .inl (.inr (.inr q)))
  exact hQ s3 S3 K3 it3 ((E0.tr E2).tr (E3.weak fun b q => .inl (.inl q)))
theorem whileE (H : Snd prog w h₀ N ih) (R : Rm A (N + 3)) {test : Expr} {body : List Stmt} {pos : Pos} {fl : Fl} {k : Nat} (S : Stt prog w h₀ μ σ s) (K : EnvOK h₀ μ s.heap env cx ρ) (h : whileL ih cx test body k ρ σ = some (fl, ρ', σ')) :
    wpAny (model prog w) A (exec (.While test body [] pos) env) (PS prog w h₀ μ s env cx fl ρ' σ') noE s := by
  refine wpAny_While (codeAny_whileLoop (fun n s1 => ∃ ρ1 σ1 μ1, whileL ih cx test body n ρ1 σ1 = some (fl, ρ', σ') ∧ Stt prog w h₀ μ1 σ1 s1 ∧ EnvOK h₀ μ1 s1.heap env cx ρ1 ∧ Evo (frW env cx) μ s μ1 s1) ?_ k ⟨ρ, σ, μ, h, S, K, .refl _ _ _⟩)
  rintro n s1 ⟨ρ1, σ1, μ1, h1, S1, K1, E1⟩
  cases n with
  | zero => cases h1
  | succ n =>
    unfold whileL at h1
    split at h1
    · rename_i σ2 h2
      refine wm (H.t R S1 K1 h2) fun b s2 ⟨q, μ2, S2, E2⟩ => ?_
      subst q
      show wpAny _ _ (execs body env) _ _ _
      split at h1
      · rename_i v ρ2 σ3 h3
        cases h1
        refine wm (H.s R S2 (K1.evo0 S1 E2) h3) fun f s3 ⟨μ3, f3, S3, K3, E3⟩ => ?_
        cases f3 with
        | ret r => exact ⟨μ3, .ret r, S3, K3, (E1.tr E2.up).tr E3⟩
      · rename_i ρ2 σ3 h3
        refine wm (H.s R S2 (K1.evo0 S1 E2) h3) fun f s3 ⟨μ3, f3, S3, K3, E3⟩ => ?_
        cases f3
        exact ⟨n, Nat.lt_succ_self n, ρ2, σ3, μ3, h1, S3, K3, (E1.tr E2.up).tr E3⟩
      · rename_i ρ2 σ3 h3
        refine wm (H.s R S2 (K1.evo0 S1 E2) h3) fun f s3 ⟨μ3, f3, S3, K3, E3⟩ => ?_
        cases f3
        exact ⟨n, Nat.lt_succ_self n, ρ2, σ3, μ3, h1, S3, K3, (E1.tr E2.up).tr E3⟩
      · first | exact no_some h1 | cases h1
    · rename_i σ2 h2
      cases h1
      refine wm (H.t R S1 K1 h2) fun b s2 ⟨q, μ2, S2, E2⟩ => ?_
      subst q
      exact wpAny_execs_nil ⟨μ2, .next, S2, K1.evo0 S1 E2, E1.tr E2.up⟩
    · first | exact no_some h1 | cases h1
theorem forE (W : Wd h₀ P mg mb) (H : Snd prog w h₀ N ih) (R : Rm A (N + 3)) {target iter : Expr} {body : List Stmt} {pos : Pos} {fl : Fl} {k : Nat} {I : It} {σ1 : Store} (S : Stt prog w h₀ μ σ s) (K : EnvOK h₀ μ s.heap env cx ρ) (hi : iterE T ih cx iter ρ σ = some (I, σ1))
    (h : forL ih cx target body k I ρ σ1 = some (fl, ρ', σ')) : wpAny (model prog w) A (exec (.For target iter body [] pos) env) (PS prog w h₀ μ s env cx fl ρ' σ') noE s := by
  obtain ⟨hset, hev⟩ := iterE_ok W H R S K hi
  refine wpAny_For (wm hev fun x s1 hx => wm hx fun itv s2 ⟨it, ow, μ2, q, S2, i2, fr2, E2⟩ => ?_) hset
  subst q
  refine codeAny_forLoop_any (fun n s3 => ∃ I3 ρ3 σ3 μ3, forL ih cx target body n I3 ρ3 σ3 = some (fl, ρ', σ') ∧ Stt prog w h₀ μ3 σ3 s3 ∧ EnvOK h₀ μ3 s3.heap env cx ρ3 ∧ ItAt h₀ s3.heap μ3 it ow I3 ∧ Evo (loX env cx ow) μ s μ3 s3) ?_ k ⟨I, ρ, σ1, μ2, h, S2, K.evo0 S E2, i2, E2.up⟩
  rintro n s3 ⟨I3, ρ3, σ3, μ3, h3, S3, K3, i3, E3⟩
  have frw : ∀ b, loX env cx ow b → frW env cx b ∨ s.heap.get? b = none := fun b q => q.imp id (fr2 b)
  cases n with
  | zero => cases h3
  | succ n =>
    unfold forL at h3
    split at h3
    · cases h3
    · cases h3
    · rename_i ht hn
      cases h3
      refine wm (next_ok (N := N + 1) R (tgt := target) S3 i3 ht hn) fun rv s4 hr => ?_
      obtain ⟨rfl, d⟩ := hr
      obtain ⟨S4, K4⟩ := dryEnd S3 K3 i3.owned d
      exact wpAny_execs_nil ⟨μ3, .next, S4, K4, E3.dry fr2 d⟩
    · rename_i V4 I4 ht hn
      refine wm (next_ok (N := N + 1) R (tgt := target) S3 i3 ht hn) fun rv s4 hr => ?_
      obtain ⟨v, rfl, hd⟩ := hr
      split at h3
      · cases h3
      · rename_i ρ4 h4
        refine wpAny_mono (drawn_ok R K3 S3 i3 E3 h4 hd (Q := fun _ s5 => wpAny (model prog w) A (execs body env) (fun f s₃ => match f with
            | .next | .cont => ∃ m, m < n + 1 ∧ ∃ I3 ρ3 σ3 μ3, forL ih cx target body m I3 ρ3 σ3 = some (fl, ρ', σ') ∧ Stt prog w h₀ μ3 σ3 s₃ ∧ EnvOK h₀ μ3 s₃.heap env cx ρ3 ∧ ItAt h₀ s₃.heap μ3 it ow I3 ∧ Evo (loX env cx ow) μ s μ3 s₃
            | .brk => PS prog w h₀ μ s env cx fl ρ' σ' .next s₃
            | .ret v => PS prog w h₀ μ s env cx fl ρ' σ' (.ret v) s₃) noE s5) fun s5 S5 K5 i5 E5 => ?_) (fun _ s5 h5 => wm h5 fun _ s6 h6 => wm h6 fun f s7 h7 => h7) (fun _ _ y => y.elim)
        have keepI : ∀ {s6 : Shared} {μ6 : List Addr}, Evo (frW env cx) μ3 s5 μ6 s6 → ItAt h₀ s6.heap μ6 it ow I4 := fun {s6 μ6} E6 => by
          have hw5 := i5.owned
          have tu := E6.tup S5 K5.fwTup
          have kp : ∀ b ∈ ow, ∀ o, s5.heap.get? b = some o → s6.heap.get? b = some o := fun b hb o e => E6.keep e (let ⟨_, o', vs, e', d⟩ := hw5 b hb; S5.notFields e' d) (fun q => frA_ow K5 hw5 hb (frW_sub q))
          obtain ⟨_, ν, rfl, _⟩ := E6
          exact i5.keep tu kp
        split at h3
        · rename_i v5 ρ5 σ5 h5
          cases h3
          refine wm (H.s R S5 K5 h5) fun f s6 ⟨μ6, f6, S6, K6, E6⟩ => ?_
          cases f6 with
          | ret r => exact ⟨μ6, .ret r, S6, K6, (E5.tr (E6.weak fun b q => .inl (.inl q))).weak frw⟩
        · rename_i ρ5 σ5 h5
          refine wm (H.s R S5 K5 h5) fun f s6 ⟨μ6, f6, S6, K6, E6⟩ => ?_
          cases f6
          exact ⟨n, Nat.lt_succ_self n, I4, ρ5, σ5, μ6, h3, S6, K6, keepI E6, E5.tr (E6.weak fun b q => .inl (.inl q))⟩
        · rename_i ρ5 σ5 h5
          refine wm (H.s R S5 K5 h5) fun f s6 ⟨μ6, f6, S6, K6, E6⟩ => ?_
          cases f6
          exact ⟨n, Nat.lt_succ_self n, I4, ρ5, σ5, μ6, h3, S6, K6, keepI E6, E5.tr (E6.weak fun b q => .inl (.inl q))⟩
        · cases h3
end Mine
namespace Mine
open PySem PySem.Calls PyProof.Rows
variable {prog : Program} {w : World} {A : Around} {s : Shared} {h₀ : Heap} {μ : List Addr} {σ σ' : Store} {N : Nat} {env : Env} {cx : Cx} {ρ ρ' : Rho} {P : Pg} {mg mb : Str → Option Value} {T : Tb} {ih : Ev}
/-- the tests of a clause, as the machine runs them -/
noncomputable abbrev testsM (ifs : List Expr) (env : Env) (b : Bool) : Sem Bool := forIn ifs b fun c r => if r = true then do let ok ← isTrue c env (eval c env); pure (ForInStep.yield ok) else pure (ForInStep.yield r)
theorem tests_false (env : Env) : ∀ (ifs : List Expr), testsM ifs env false = pure false
  | [] => rfl
  | c :: r => by
    unfold testsM
    rw [List.forIn_cons]
    simp only [Bool.false_eq_true, if_false, pure_bind]
    exact tests_false env r
theorem tests_ok (H : Snd prog w h₀ N ih) (R : Rm A (N + 3)) : ∀ (ifs : List Expr) {b : Bool} {σ σ' : Store} {s : Shared} {μ : List Addr}, Stt prog w h₀ μ σ s → EnvOK h₀ μ s.heap env cx ρ → testsL ih cx ifs ρ σ = some (b, σ') →
    wpAny (model prog w) A (testsM ifs env true) (PB prog w h₀ μ s σ' b) noE s
  | [], b, σ, σ', s, μ, S, K, h => by
    cases h
    exact wpAny_pure ⟨rfl, μ, S, .refl _ _ _⟩
  | c :: r, b, σ, σ', s, μ, S, K, h => by
    unfold testsL at h
    unfold testsM
    rw [List.forIn_cons]
    simp only [if_true]
    split at h
    · rename_i σ1 h1
      refine wpAny_bind (wpAny_bind (wm (H.t R S K h1) fun x s1 ⟨q, μ1, S1, E1⟩ => ?_))
      subst q
      exact wpAny_pure (aftB E1 (tests_ok H R r S1 (K.evo0 S E1) h))
    · rename_i σ1 h1
      cases h
      refine wpAny_bind (wpAny_bind (wm (H.t R S K h1) fun x s1 ⟨q, μ1, S1, E1⟩ => ?_))
      subst q
      refine wpAny_pure ?_
      have := tests_false env r
      refine wpAny_of_eq this ⟨rfl, μ1, S1, E1⟩
    · first | exact no_some h | cases h
noncomputable abbrev emL (elt : Expr) (acc : Value) (env : Env) : Sem Unit := do let v ← eval elt env; let _ ← call (.builtin "list.append") [acc, v]; pure ()
noncomputable abbrev emD (k v : Expr) (acc : Value) (env : Env) : Sem Unit := do
  let kv ← eval k env
  let vv ← holding [kv] (eval v env)
  match acc with
  | .ref d => do
    standAt { line := k.pos.line, col := k.pos.col, endLine := v.pos.endLine, endCol := v.pos.endCol }
    holding [kv, vv] (dictSet d kv vv)
  | _ => unsupported "internal:dictcomp"
theorem turnL {elt : Expr} {gens : List Comprehension} {scope : Scope} {pos : Pos} {depth : Nat} {it acc : Value} {target iter : Expr} {ifs : List Expr} {Q : PySem.Fin → Shared → Prop} (hg : gens[depth]? = some ⟨target, iter, ifs, 0⟩)
    (h : wpAny (model prog w) A (pyNext it) (fun r s₁ => match r with
      | none => Q (.done .next) s₁
      | some dv => wpAny (model prog w) A (letOwnedTupleGo target it dv) (fun _ s₂ => wpAny (model prog w) A (assign target env dv) (fun _ s₃ => wpAny (model prog w) A (testsM ifs env true) (fun ok s₄ =>
          if ok = true then match gens[depth + 1]? with
            | none => wpAny (model prog w) A (emL elt acc env) (fun _ s₅ => Q (.again (.compLoop (.ListComp elt gens scope pos) depth it acc env)) s₅) noE s₄
            | some g' => g'.is_async = 0 ∧ (∀ x, foldedSetIterable g'.iter env x = pure x) ∧ wpAny (model prog w) A (eval g'.iter env) (fun x s₅ => wpAny (model prog w) A (pyIter x) (fun itv s₆ =>
                codeAny (model prog w) A (.compStart (.ListComp elt gens scope pos) (depth + 1) itv acc env) (fun r s₇ => (∃ f, r = .ok f) ∧ Q (.again (.compLoop (.ListComp elt gens scope pos) depth it acc env)) s₇) s₆) noE s₅) noE s₄
          else Q (.again (.compLoop (.ListComp elt gens scope pos) depth it acc env)) s₄) noE s₃) noE s₂) noE s₁) noE s) :
    wpAny (model prog w) A (compTurn (.ListComp elt gens scope pos) depth it acc env) Q noE s := by
  unfold compTurn
  dsimp only
  rw [hg]
  refine wpAny_bind (wpAny_standAt ?_)
  refine wpAny_bind (wm h fun r s₁ h₁ => ?_)
  cases r with
  | none => exact wpAny_pure h₁
  | some dv =>
    refine wpAny_bind (wm h₁ fun _ s₂ h₂ => wpAny_bind (wm h₂ fun _ s₃ h₃ => wpAny_bind (wm h₃ fun ok s₄ h₄ => ?_)))
    cases ok with
    | false => exact wpAny_pure h₄
    | true =>
      simp only [if_true] at h₄ ⊢
      cases hq : gens[depth + 1]? with
      | none =>
        rw [hq] at h₄
        exact wpAny_bind (wm h₄ fun _ s₅ h₅ => wpAny_pure h₅)
      | some g' =>
        rw [hq] at h₄
        obtain ⟨ha, hs, h₄⟩ := h₄
        dsimp only
        refine wpAny_bind (wm h₄ fun x s₅ h₅ => wpAny_bind (wpAny_standAt ?_))
        rw [ha]
        refine wpAny_bind (wpAny_of_eq (hs x) ?_)
        refine wpAny_bind (wpAny_holding (wm h₅ fun itv s₆ h₆ => ?_))
        refine wpAny_bind (wpAny_runOwn (codeAny_mono h₆ fun r s₇ h₇ => ?_))
        obtain ⟨⟨f, rfl⟩, h₇⟩ := h₇
        exact wpAny_pure h₇
theorem loopL {elt : Expr} {gens : List Comprehension} {scope : Scope} {pos : Pos} {depth : Nat} {it acc : Value} {R : Result → Shared → Prop} (I : Nat → Shared → Prop)
    (turn : ∀ n s, I n s → wpAny (model prog w) A (compTurn (.ListComp elt gens scope pos) depth it acc env) (fun fin s' => match fin with
      | .done f => R (.ok f) s'
      | .again c' => c' = .compLoop (.ListComp elt gens scope pos) depth it acc env ∧ ∃ m, m < n ∧ I m s') noE s) (n : Nat) (h : I n s) :
    codeAny (model prog w) A (.compLoop (.ListComp elt gens scope pos) depth it acc env) R s := by
  refine codeAny_loop rfl I (fun n s hI => ?_) n h
  show wpAny _ _ ((compTurn (.ListComp elt gens scope pos) depth it acc env).onRaise (fun x => do noteFrame x env; theTreesLotGoes x)) _ _ s
  refine wpAny_noted ?_
  exact wm (turn n s hI) fun _ _ y => y
theorem startL {elt : Expr} {gens : List Comprehension} {scope : Scope} {pos : Pos} {depth : Nat} {it acc : Value} {target iter : Expr} {ifs : List Expr} {R : Result → Shared → Prop} (hg : gens[depth]? = some ⟨target, iter, ifs, 0⟩)
    (hit : ∀ Q : Value → Shared → Prop, Q it s → wpAny (model prog w) A (pyIter it) Q noE s)
    (h : codeAny (model prog w) A (.compLoop (.ListComp elt gens scope pos) depth it acc env) R s) : codeAny (model prog w) A (.compStart (.ListComp elt gens scope pos) depth it acc env) R s := by
  refine codeAny_of_tree ?_
  show wpAny _ _ ((compStart (.ListComp elt gens scope pos) depth it acc env).onRaise (fun x => do noteFrame x env; standAt theWindowsPlace)) _ _ s
  refine wpAny_notedAt ?_
  unfold compStart
  rw [show clausesOf (.ListComp elt gens scope pos) = gens from rfl]
  simp only [hg, Option.elim_some]
  show wpAny _ _ (ask >>= _) _ _ s
  refine wpAny_bind (wpAny_askSetting (wpAny_ite ?_))
  split
  · first
      | exact wpAny_bind (wpAny_pure (wpAny_pure (And.intro rfl h)))
      | exact wpAny_pure (And.intro rfl h)
  · have h2 : wpAny (model prog w) A (pyIter it) (fun it' s' => it' = it ∧ s' = s) noE s := hit _ ⟨rfl, rfl⟩
    first
      | exact wpAny_bind (wpAny_rule (wpAny_bind (wpAny_standAt (wpAny_bind (wm h2 fun it' s' h' => by obtain ⟨rfl, rfl⟩ := h'; exact wpAny_pure (And.intro rfl h))))))
      | (refine wpAny_bind (wpAny_rule ?_); show wpAny _ _ (standAt iter.pos >>= _) _ _ s; exact wpAny_bind (wpAny_standAt (wpAny_bind (wm h2 fun it' s' h' => by obtain ⟨rfl, rfl⟩ := h'; exact wpAny_pure (And.intro rfl h)))))
theorem turnD {k v : Expr} {gens : List Comprehension} {scope : Scope} {pos : Pos} {depth : Nat} {it acc : Value} {target iter : Expr} {ifs : List Expr} {Q : PySem.Fin → Shared → Prop} (hg : gens[depth]? = some ⟨target, iter, ifs, 0⟩)
    (h : wpAny (model prog w) A (pyNext it) (fun r s₁ => match r with
      | none => Q (.done .next) s₁
      | some dv => wpAny (model prog w) A (letOwnedTupleGo target it dv) (fun _ s₂ => wpAny (model prog w) A (assign target env dv) (fun _ s₃ => wpAny (model prog w) A (testsM ifs env true) (fun ok s₄ =>
          if ok = true then match gens[depth + 1]? with
            | none => wpAny (model prog w) A (emD k v acc env) (fun _ s₅ => Q (.again (.compLoop (.DictComp k v gens scope pos) depth it acc env)) s₅) noE s₄
            | some g' => g'.is_async = 0 ∧ (∀ x, foldedSetIterable g'.iter env x = pure x) ∧ wpAny (model prog w) A (eval g'.iter env) (fun x s₅ => wpAny (model prog w) A (pyIter x) (fun itv s₆ =>
                codeAny (model prog w) A (.compStart (.DictComp k v gens scope pos) (depth + 1) itv acc env) (fun r s₇ => (∃ f, r = .ok f) ∧ Q (.again (.compLoop (.DictComp k v gens scope pos) depth it acc env)) s₇) s₆) noE s₅) noE s₄
          else Q (.again (.compLoop (.DictComp k v gens scope pos) depth it acc env)) s₄) noE s₃) noE s₂) noE s₁) noE s) :
    wpAny (model prog w) A (compTurn (.DictComp k v gens scope pos) depth it acc env) Q noE s := by
  unfold compTurn
  dsimp only
  rw [hg]
  refine wpAny_bind (wpAny_standAt ?_)
  refine wpAny_bind (wm h fun r s₁ h₁ => ?_)
  cases r with
  | none => exact wpAny_pure h₁
  | some dv =>
    refine wpAny_bind (wm h₁ fun _ s₂ h₂ => wpAny_bind (wm h₂ fun _ s₃ h₃ => wpAny_bind (wm h₃ fun ok s₄ h₄ => ?_)))
    cases ok with
    | false => exact wpAny_pure h₄
    | true =>
      simp only [if_true] at h₄ ⊢
      cases hq : gens[depth + 1]? with
      | none =>
        rw [hq] at h₄
        exact wpAny_bind (wm h₄ fun _ s₅ h₅ => wpAny_pure h₅)
      | some g' =>
        rw [hq] at h₄
        obtain ⟨ha, hs, h₄⟩ := h₄
        dsimp only
        refine wpAny_bind (wm h₄ fun x s₅ h₅ => wpAny_bind (wpAny_standAt ?_))
        rw [ha]
        refine wpAny_bind (wpAny_of_eq (hs x) ?_)
        refine wpAny_bind (wpAny_holding (wm h₅ fun itv s₆ h₆ => ?_))
        refine wpAny_bind (wpAny_runOwn (codeAny_mono h₆ fun r s₇ h₇ => ?_))
        obtain ⟨⟨f, rfl⟩, h₇⟩ := h₇
        exact wpAny_pure h₇
theorem loopD {k v : Expr} {gens : List Comprehension} {scope : Scope} {pos : Pos} {depth : Nat} {it acc : Value} {R : Result → Shared → Prop} (I : Nat → Shared → Prop)
    (turn : ∀ n s, I n s → wpAny (model prog w) A (compTurn (.DictComp k v gens scope pos) depth it acc env) (fun fin s' => match fin with
      | .done f => R (.ok f) s'
      | .again c' => c' = .compLoop (.DictComp k v gens scope pos) depth it acc env ∧ ∃ m, m < n ∧ I m s') noE s) (n : Nat) (h : I n s) :
    codeAny (model prog w) A (.compLoop (.DictComp k v gens scope pos) depth it acc env) R s := by
  refine codeAny_loop rfl I (fun n s hI => ?_) n h
  show wpAny _ _ ((compTurn (.DictComp k v gens scope pos) depth it acc env).onRaise (fun x => do noteFrame x env; theTreesLotGoes x)) _ _ s
  refine wpAny_noted ?_
  exact wm (turn n s hI) fun _ _ y => y
theorem startD {k v : Expr} {gens : List Comprehension} {scope : Scope} {pos : Pos} {depth : Nat} {it acc : Value} {target iter : Expr} {ifs : List Expr} {R : Result → Shared → Prop} (hg : gens[depth]? = some ⟨target, iter, ifs, 0⟩)
    (hit : ∀ Q : Value → Shared → Prop, Q it s → wpAny (model prog w) A (pyIter it) Q noE s)
    (h : codeAny (model prog w) A (.compLoop (.DictComp k v gens scope pos) depth it acc env) R s) : codeAny (model prog w) A (.compStart (.DictComp k v gens scope pos) depth it acc env) R s := by
  refine codeAny_of_tree ?_
  show wpAny _ _ ((compStart (.DictComp k v gens scope pos) depth it acc env).onRaise (fun x => do noteFrame x env; standAt theWindowsPlace)) _ _ s
  refine wpAny_notedAt ?_
  unfold compStart
  rw [show clausesOf (.DictComp k v gens scope pos) = gens from rfl]
  simp only [hg, Option.elim_some]
  show wpAny _ _ (ask >>= _) _ _ s
  refine wpAny_bind (wpAny_askSetting (wpAny_ite ?_))
  split
  · first
      | exact wpAny_bind (wpAny_pure (wpAny_pure (And.intro rfl h)))
      | exact wpAny_pure (And.intro rfl h)
  · have h2 : wpAny (model prog w) A (pyIter it) (fun it' s' => it' = it ∧ s' = s) noE s := hit _ ⟨rfl, rfl⟩
    first
      | exact wpAny_bind (wpAny_rule (wpAny_bind (wpAny_standAt (wpAny_bind (wm h2 fun it' s' h' => by obtain ⟨rfl, rfl⟩ := h'; exact wpAny_pure (And.intro rfl h))))))
      | (refine wpAny_bind (wpAny_rule ?_); show wpAny _ _ (standAt iter.pos >>= _) _ _ s; exact wpAny_bind (wpAny_standAt (wpAny_bind (wm h2 fun it' s' h' => by obtain ⟨rfl, rfl⟩ := h'; exact wpAny_pure (And.intro rfl h)))))
end Mine
namespace Mine
open PySem PySem.Calls PyProof.Rows
variable {prog : Program} {w : World} {A : Around} {s : Shared} {h₀ : Heap} {μ : List Addr} {σ σ' : Store} {N : Nat} {env : Env} {cx : Cx} {ρ ρ' : Rho} {P : Pg} {mg mb : Str → Option Value} {T : Tb} {ih : Ev}
structure CompRules (prog : Program) (w : World) (e : Expr) (gens : List Comprehension) (em : Value → Env → Sem Unit) : Prop where
  turn : ∀ {A : Around} {env : Env} {s : Shared} {depth : Nat} {it acc : Value} {target iter : Expr} {ifs : List Expr} {Q : PySem.Fin → Shared → Prop}, gens[depth]? = some ⟨target, iter, ifs, 0⟩ →
    wpAny (model prog w) A (pyNext it) (fun r s₁ => match r with
      | none => Q (.done .next) s₁
      | some dv => wpAny (model prog w) A (letOwnedTupleGo target it dv) (fun _ s₂ => wpAny (model prog w) A (assign target env dv) (fun _ s₃ => wpAny (model prog w) A (testsM ifs env true) (fun ok s₄ =>
          if ok = true then match gens[depth + 1]? with
            | none => wpAny (model prog w) A (em acc env) (fun _ s₅ => Q (.again (.compLoop e depth it acc env)) s₅) noE s₄
            | some g' => g'.is_async = 0 ∧ (∀ x, foldedSetIterable g'.iter env x = pure x) ∧ wpAny (model prog w) A (eval g'.iter env) (fun x s₅ => wpAny (model prog w) A (pyIter x) (fun itv s₆ =>
                codeAny (model prog w) A (.compStart e (depth + 1) itv acc env) (fun r s₇ => (∃ f, r = .ok f) ∧ Q (.again (.compLoop e depth it acc env)) s₇) s₆) noE s₅) noE s₄
          else Q (.again (.compLoop e depth it acc env)) s₄) noE s₃) noE s₂) noE s₁) noE s →
    wpAny (model prog w) A (compTurn e depth it acc env) Q noE s
  loop : ∀ {A : Around} {env : Env} {depth : Nat} {it acc : Value} {R : Result → Shared → Prop} (I : Nat → Shared → Prop),
    (∀ n s, I n s → wpAny (model prog w) A (compTurn e depth it acc env) (fun fin s' => match fin with
      | .done f => R (.ok f) s'
      | .again c' => c' = .compLoop e depth it acc env ∧ ∃ m, m < n ∧ I m s') noE s) → ∀ (n : Nat) (s : Shared), I n s →
    codeAny (model prog w) A (.compLoop e depth it acc env) R s
  start : ∀ {A : Around} {env : Env} {s : Shared} {depth : Nat} {it acc : Value} {target iter : Expr} {ifs : List Expr} {R : Result → Shared → Prop}, gens[depth]? = some ⟨target, iter, ifs, 0⟩ →
    (∀ Q : Value → Shared → Prop, Q it s → wpAny (model prog w) A (pyIter it) Q noE s) → codeAny (model prog w) A (.compLoop e depth it acc env) R s → codeAny (model prog w) A (.compStart e depth it acc env) R s
theorem rulesL (elt : Expr) (gens : List Comprehension) (scope : Scope) (pos : Pos) : CompRules prog w (.ListComp elt gens scope pos) gens (emL elt) := ⟨turnL, fun I t n s h => loopL I t n h, startL⟩
theorem rulesD (k v : Expr) (gens : List Comprehension) (scope : Scope) (pos : Pos) : CompRules prog w (.DictComp k v gens scope pos) gens (emD k v) := ⟨turnD, fun I t n s h => loopD I t n h, startD⟩
theorem reiter {it : Addr} {ow : List Addr} {I : It} (x : ItAt h₀ s.heap μ it ow I) (Q : Value → Shared → Prop) (h : Q (.ref it) s) : wpAny (model prog w) A (pyIter (.ref it)) Q noE s := by
  cases I with
  | dict n i len ep => obtain ⟨_, _, d, _, k⟩ := x; exact wpAny_pyIter_keyiter k h
  | list n i => obtain ⟨_, _, d, _, k⟩ := x; exact wpAny_pyIter_listiter k h
  | items vs i => obtain ⟨_, _, t, ws, _, _, k⟩ := x; exact wpAny_pyIter_tupleiter k h
  | range y left => obtain ⟨_, _, k⟩ := x; exact wpAny_pyIter_rangeiter k h
  | enumL n i => obtain ⟨j, _, _, _, _, old, l, _, k, _⟩ := x; exact wpAny_pyIter_enum k h
  | enumT vs i => obtain ⟨j, _, _, _, _, _, old, t, ws, _, _, k, _⟩ := x; exact wpAny_pyIter_enum k h
/-- what stands inside a clause -/
noncomputable def InnerOK (prog : Program) (w : World) (A : Around) (h₀ : Heap) (e : Expr) (gens : List Comprehension) (em : Value → Env → Sem Unit) (env : Env) (cx : Cx) (accN : Nat) (d : Addr) (depth : Nat) (inner : Rho → Store → Option (Rho × Store)) : Prop :=
  ∀ (ρ ρ' : Rho) (σ σ' : Store) (s : Shared) (μ : List Addr) (Q : Shared → Prop), Stt prog w h₀ μ σ s → EnvOK h₀ μ s.heap env cx ρ → μ[accN]? = some d → inner ρ σ = some (ρ', σ') →
    (∀ s' μ', Stt prog w h₀ μ' σ' s' → EnvOK h₀ μ' s'.heap env cx ρ' → Evo (frW env cx) μ s μ' s' → Q s') →
    match gens[depth + 1]? with
    | none => wpAny (model prog w) A (em (.ref d) env) (fun _ s₅ => Q s₅) noE s
    | some g' => g'.is_async = 0 ∧ (∀ x, foldedSetIterable g'.iter env x = pure x) ∧ wpAny (model prog w) A (eval g'.iter env) (fun x s₅ => wpAny (model prog w) A (pyIter x) (fun itv s₆ =>
        codeAny (model prog w) A (.compStart e (depth + 1) itv (.ref d) env) (fun r s₇ => (∃ f, r = .ok f) ∧ Q s₇) s₆) noE s₅) noE s
theorem grow_at {F : Addr → Prop} {μ' : List Addr} {s' : Shared} {n : Nat} {d : Addr} (h : μ[n]? = some d) (E : Evo F μ s μ' s') : μ'[n]? = some d := by
  obtain ⟨_, ν, rfl, _⟩ := E
  rw [List.getElem?_append_left (List.getElem?_eq_some_iff.mp h).1]; exact h
theorem compL_ok (H : Snd prog w h₀ N ih) (R : Rm A (N + 3)) {e : Expr} {gens : List Comprehension} {em : Value → Env → Sem Unit} (CR : CompRules prog w e gens em) {depth : Nat} {target iter : Expr} {ifs : List Expr} (hg : gens[depth]? = some ⟨target, iter, ifs, 0⟩)
    {accN : Nat} {d : Addr} {inner : Rho → Store → Option (Rho × Store)} (IN : InnerOK prog w A h₀ e gens em env cx accN d depth inner) {it : Addr} {ow : List Addr} {s0 : Shared} {μ0 : List Addr} (fr : ∀ b ∈ ow, s0.heap.get? b = none)
    {k : Nat} {I : It} (S : Stt prog w h₀ μ σ s) (K : EnvOK h₀ μ s.heap env cx ρ) (x : ItAt h₀ s.heap μ it ow I) (ha : μ[accN]? = some d) (E0 : Evo (loX env cx ow) μ0 s0 μ s) (h : compL ih cx inner target ifs k I ρ σ = some (ρ', σ')) :
    codeAny (model prog w) A (.compLoop e depth (.ref it) (.ref d) env) (fun r s' => (∃ f, r = .ok f) ∧ ∃ μ', Stt prog w h₀ μ' σ' s' ∧ EnvOK h₀ μ' s'.heap env cx ρ' ∧ Evo (frW env cx) μ0 s0 μ' s' ∧ μ'[accN]? = some d) s := by
  refine CR.loop (fun n s3 => ∃ I3 ρ3 σ3 μ3, compL ih cx inner target ifs n I3 ρ3 σ3 = some (ρ', σ') ∧ Stt prog w h₀ μ3 σ3 s3 ∧ EnvOK h₀ μ3 s3.heap env cx ρ3 ∧ ItAt h₀ s3.heap μ3 it ow I3 ∧ μ3[accN]? = some d ∧ Evo (loX env cx ow) μ0 s0 μ3 s3) ?_ k s ⟨I, ρ, σ, μ, h, S, K, x, ha, E0⟩
  rintro n s3 ⟨I3, ρ3, σ3, μ3, h3, S3, K3, i3, a3, E3⟩
  refine CR.turn hg ?_
  cases n with
  | zero => cases h3
  | succ n =>
    unfold compL at h3
    split at h3
    · cases h3
    · cases h3
    · rename_i ht hn
      cases h3
      refine wm (next_ok (N := N + 1) R (tgt := target) S3 i3 ht hn) fun rv s4 hr => ?_
      obtain ⟨rfl, dr⟩ := hr
      obtain ⟨S4, K4⟩ := dryEnd S3 K3 i3.owned dr
      exact ⟨⟨_, rfl⟩, μ3, S4, K4, E3.dry fr dr, a3⟩
    · rename_i V4 I4 ht hn
      refine wm (next_ok (N := N + 1) R (tgt := target) S3 i3 ht hn) fun rv s4 hr => ?_
      obtain ⟨v, rfl, hd⟩ := hr
      split at h3
      · cases h3
      · rename_i ρ4 h4
        refine drawn_ok R K3 S3 i3 E3 h4 hd fun s5 S5 K5 i5 E5 => ?_
        have keepI : ∀ {F : Addr → Prop} {s5 s6 : Shared} {σ5 : Store} {μ5 μ6 : List Addr} {ρ5 : Rho}, (∀ b, F b → frW env cx b) → Stt prog w h₀ μ5 σ5 s5 → EnvOK h₀ μ5 s5.heap env cx ρ5 → ItAt h₀ s5.heap μ5 it ow I4 → Evo F μ5 s5 μ6 s6 → ItAt h₀ s6.heap μ6 it ow I4 := fun {F s5 s6 σ5 μ5 μ6 ρ5} hF S5 K5 i5 E6 => by
          have hw5 := i5.owned
          have tu := E6.tup S5 fun b items f => K5.fwTup b items (hF b f)
          have kp : ∀ b ∈ ow, ∀ o, s5.heap.get? b = some o → s6.heap.get? b = some o := fun b hb o e => E6.keep e (let ⟨_, o', vs, e', d⟩ := hw5 b hb; S5.notFields e' d) (fun q => frA_ow K5 hw5 hb (frW_sub (hF b q)))
          obtain ⟨_, ν, rfl, _⟩ := E6
          exact i5.keep tu kp
        split at h3
        · cases h3
        · rename_i σ5 h5
          refine wm (tests_ok H R ifs S5 K5 h5) fun b s6 ⟨q, μ6, S6, E6⟩ => ?_
          subst q
          rw [if_neg Bool.false_ne_true]
          exact ⟨rfl, n, Nat.lt_succ_self n, I4, ρ4, σ5, μ6, h3, S6, K5.evo0 S5 E6, keepI (fun _ q => q.elim) S5 K5 i5 E6, grow_at a3 E6, E5.tr E6.up⟩
        · rename_i σ5 h5
          refine wm (tests_ok H R ifs S5 K5 h5) fun b s6 ⟨q, μ6, S6, E6⟩ => ?_
          subst q
          rw [if_pos rfl]
          have K6 := K5.evo0 S5 E6
          have i6 := keepI (fun _ q => q.elim) S5 K5 i5 E6
          have a6 := grow_at a3 E6
          split at h3
          · cases h3
          · rename_i ρ7 σ7 h7
            have := IN _ _ _ _ _ _ (fun s7 => Code.compLoop e depth (.ref it) (.ref d) env = .compLoop e depth (.ref it) (.ref d) env ∧ ∃ m, m < n + 1 ∧ ∃ I3 ρ3 σ3 μ3, compL ih cx inner target ifs m I3 ρ3 σ3 = some (ρ', σ') ∧ Stt prog w h₀ μ3 σ3 s7 ∧ EnvOK h₀ μ3 s7.heap env cx ρ3 ∧ ItAt h₀ s7.heap μ3 it ow I3 ∧ μ3[accN]? = some d ∧ Evo (loX env cx ow) μ0 s0 μ3 s7) S6 K6 a6 h7 fun s7 μ7 S7 K7 E7 =>
              ⟨rfl, n, Nat.lt_succ_self n, I4, ρ7, σ7, μ7, h3, S7, K7, keepI (fun _ q => q) S6 K6 i6 E7, grow_at a6 E7, (E5.tr E6.up).tr (E7.weak fun b q => .inl (.inl q))⟩
            exact this
theorem g_eta (g : Comprehension) (h : g.is_async = 0) : g = ⟨g.target, g.iter, g.ifs, 0⟩ := by
  cases g; cases h; rfl
theorem compGs_ok (W : Wd h₀ P mg mb) (H : Snd prog w h₀ N ih) (R : Rm A (N + 3)) {e : Expr} {gens : List Comprehension} {em : Value → Env → Sem Unit} (CR : CompRules prog w e gens em) {accN : Nat} {d : Addr} {emit : Rho → Store → Option Store}
    (EM : ∀ {ρ : Rho} {σ σ' : Store} {s : Shared} {μ : List Addr}, Stt prog w h₀ μ σ s → EnvOK h₀ μ s.heap env cx ρ → μ[accN]? = some d → emit ρ σ = some σ' → wpAny (model prog w) A (em (.ref d) env) (PU prog w h₀ μ s σ') noE s) :
    ∀ (gs : List Comprehension) (depth : Nat), gens.drop (depth + 1) = gs → InnerOK prog w A h₀ e gens em env cx accN d depth (compGs T ih cx emit gs)
  | [], depth, hd => by
    intro ρ ρ' σ σ' s μ Q S K ha h hQ
    have hn : gens[depth + 1]? = none := by
      have : gens.length ≤ depth + 1 := List.drop_eq_nil_iff.mp hd
      exact List.getElem?_eq_none this
    rw [hn]
    unfold compGs at h
    first | refine obxR h fun σ1 h1 h => ?_ | refine obxS h fun σ1 h1 h => ?_ | refine obxV h fun σ1 h1 h => ?_ | refine obxB h fun σ1 h1 h => ?_ | refine obxI h fun σ1 h1 h => ?_ | refine obxL h fun σ1 h1 h => ?_ | refine obxW h fun σ1 h1 h => ?_ | refine obxP h fun σ1 h1 h => ?_
    cases h
    exact wm (EM S K ha h1) fun _ s' ⟨μ', S', E'⟩ => hQ s' μ' S' (K.evo0 S E') E'.up
  | g :: gs, depth, hd => by
    intro ρ ρ' σ σ' s μ Q S K ha h hQ
    have hn : gens[depth + 1]? = some g := by
      have := congrArg (fun l => l[0]?) hd
      simpa using this
    have hd' : gens.drop (depth + 1 + 1) = gs := by
      rw [← List.drop_drop, hd]; rfl
    rw [hn]
    unfold compGs at h
    first | refine obI h fun hz h => ?_
    first | refine obyVS h fun I σ1 h1 h => ?_ | refine obyWS h fun I σ1 h1 h => ?_ | refine obyIS h fun I σ1 h1 h => ?_ | refine obyRS h fun I σ1 h1 h => ?_ | refine obyBS h fun I σ1 h1 h => ?_
    obtain ⟨hs, hev⟩ := iterE_ok W H R S K h1
    refine ⟨hz, hs, wm hev fun x s5 hx => wm hx fun itv s6 ⟨it, ow, μ6, q, S6, i6, fr6, E6⟩ => ?_⟩
    subst q
    have hg : gens[depth + 1]? = some ⟨g.target, g.iter, g.ifs, 0⟩ := by rw [hn]; exact congrArg some (g_eta g hz)
    have IN := compGs_ok W H R CR EM gs (depth + 1) hd'
    refine CR.start hg (fun Q' hq => reiter i6 Q' hq) (codeAny_mono (compL_ok H R CR hg IN fr6 S6 (K.evo0 S E6) i6 (grow_at ha E6) E6.up h) fun r s7 ⟨hf, μ7, S7, K7, E7, _⟩ => ⟨hf, hQ s7 μ7 S7 K7 E7⟩)
theorem emitL_ok (H : Snd prog w h₀ N ih) (R : Rm A (N + 3)) {elt : Expr} {accN : Nat} {d : Addr} (S : Stt prog w h₀ μ σ s) (K : EnvOK h₀ μ s.heap env cx ρ) (ha : μ[accN]? = some d) (h : emitList ih cx accN elt ρ σ = some σ') :
    wpAny (model prog w) A (emL elt (.ref d) env) (PU prog w h₀ μ s σ') noE s := by
  unfold emitList at h
  first | refine obyVS h fun v σ1 h1 h => ?_ | refine obyWS h fun v σ1 h1 h => ?_ | refine obyIS h fun v σ1 h1 h => ?_ | refine obyRS h fun v σ1 h1 h => ?_ | refine obyBS h fun v σ1 h1 h => ?_
  split at h
  · rename_i vs q
    first | refine obI h fun hl h => ?_
    cases h
    refine wpAny_bind (wm (H.e R S K h1) fun u s1 ⟨μ1, S1, r1, E1⟩ => wpAny_bind (wm (append_ok S1 (grow_at ha E1) q hl r1) fun x s2 ⟨_, S2, E2⟩ => wpAny_pure ⟨_, S2, E1.tr E2⟩))
  · first | exact no_some h | cases h
theorem emitD_ok (H : Snd prog w h₀ N ih) (R : Rm A (N + 3)) {k v : Expr} {accN : Nat} {d : Addr} (S : Stt prog w h₀ μ σ s) (K : EnvOK h₀ μ s.heap env cx ρ) (ha : μ[accN]? = some d) (h : emitDict ih cx accN k v ρ σ = some σ') :
    wpAny (model prog w) A (emD k v (.ref d) env) (PU prog w h₀ μ s σ') noE s := by
  unfold emitDict at h
  split at h
  · rename_i ks σ1 h1
    first | refine obyVS h fun V2 σ2 h2 h => ?_ | refine obyWS h fun V2 σ2 h2 h => ?_ | refine obyIS h fun V2 σ2 h2 h => ?_ | refine obyRS h fun V2 σ2 h2 h => ?_ | refine obyBS h fun V2 σ2 h2 h => ?_
    split at h
    · rename_i es ep kk q1 q2
      first | refine obI h fun hl h => ?_
      cases h
      refine wpAny_bind (wm (H.e R S K h1) fun u s1 ⟨μ1, S1, r1, E1⟩ => wpAny_bind (wpAny_holding (wm (H.e R S1 (K.evo0 S E1) h2) fun u2 s2 ⟨μ2, S2, r2, E2⟩ => wpAny_bind (wpAny_standAt (wpAny_holding ?_)))))
      exact wm (dictSet_ok (N := N + 2) R S2 (grow_at (grow_at ha E1) E2) q1 (E2.rep0 S1 r1) q2 r2 hl) fun _ s3 ⟨μ3, S3, E3⟩ => ⟨μ3, S3, (E1.tr E2).tr E3⟩
    · first | exact no_some h | cases h
  · first | exact no_some h | cases h
end Mine
namespace Mine
open PySem PySem.Calls PyProof.Rows
variable {prog : Program} {w : World} {A : Around} {s : Shared} {h₀ : Heap} {μ : List Addr} {σ σ' : Store} {N : Nat} {env : Env} {cx : Cx} {ρ ρ' : Rho} {P : Pg} {mg mb : Str → Option Value} {T : Tb} {ih : Ev}
noncomputable def fcl (env : Env) (names : Nm) : List (Str × Addr) := names.filterMap fun x => if x.2 == .free then (env.cells.lookup x.1).map (x.1, ·) else none
theorem clos_go (f : Str × NameKind → List (Str × Addr) → Sem (ForInStep (List (Str × Addr)))) (hf : ∀ name kind cs, f (name, kind) cs = if (kind == NameKind.free) = true then (do let c ← cellOf env name; pure (.yield ((name, c) :: cs))) else pure (.yield cs)) :
    ∀ (names : Nm) (acc : List (Str × Addr)), (∀ x ∈ names, x.2 = .free → ∃ c, env.cells.lookup x.1 = some c) → (forIn names acc f : Sem _) = pure ((fcl env names).reverse ++ acc)
  | [], acc, _ => by rw [List.forIn_nil]; rfl
  | (x, k) :: r, acc, h => by
    rw [List.forIn_cons, hf]
    have hr : ∀ y ∈ r, y.2 = .free → ∃ c, env.cells.lookup y.1 = some c := fun y hy => h y (List.mem_cons_of_mem _ hy)
    cases hk : k == NameKind.free with
    | false =>
      simp only [Bool.false_eq_true, if_false, pure_bind]
      rw [clos_go f hf r acc hr]
      have e2 : fcl env ((x, k) :: r) = fcl env r := by
        unfold fcl
        rw [List.filterMap_cons]
        simp only [hk, Bool.false_eq_true, if_false]
      rw [e2]
    | true =>
      obtain ⟨c, hc⟩ := h (x, k) List.mem_cons_self (by simpa using hk)
      have e : cellOf env x = pure c := by unfold cellOf; rw [hc]
      simp only [if_true, e, pure_bind]
      rw [clos_go f hf r _ hr]
      have e2 : fcl env ((x, k) :: r) = (x, c) :: fcl env r := by
        have hc' : env.cells.lookup x = some c := hc
        unfold fcl
        rw [List.filterMap_cons]
        simp only [hk, if_true, hc', Option.map_some]
      rw [e2]
      simp
theorem clos_eq {scope : Scope} (h : ∀ x ∈ scope.names, x.2 = .free → ∃ c, env.cells.lookup x.1 = some c) : closureFor scope env = pure (fcl env scope.names).reverse := by
  unfold closureFor
  have := clos_go (env := env) (fun x cs => if (x.2 == NameKind.free) = true then (do let c ← cellOf env x.1; pure (.yield ((x.1, c) :: cs))) else pure (.yield cs)) (fun _ _ _ => rfl) scope.names [] h
  simp only [List.append_nil] at this
  first
    | (rw [← this]; rfl)
    | (simp only [bind_pure]; rw [← this]; rfl)
    | (show (forIn _ _ _ >>= fun cs => pure cs) = _; simp only [bind_pure]; exact this)
theorem mem_fcl {names : Nm} {n : Str} {c : Addr} (h : (n, c) ∈ (fcl env names).reverse) : env.cells.lookup n = some c ∧ (n, .free) ∈ names := by
  rw [List.mem_reverse] at h
  obtain ⟨⟨y, k⟩, hm, e⟩ := List.mem_filterMap.mp h
  dsimp only at e
  split at e
  · rename_i hk
    obtain ⟨c', e1, e2⟩ := Option.map_eq_some_iff.mp e
    cases e2
    have hk' : k = .free := by simpa using hk
    exact ⟨e1, hk' ▸ hm⟩
  · first | exact no_some e | cases e
theorem lookup_isSome {α : Type} : ∀ {l : List (Str × α)} {n : Str} {c : α}, (n, c) ∈ l → ∃ c', l.lookup n = some c'
  | (k, v) :: r, n, c, h => by
    rw [List.lookup_cons]
    cases hb : n == k with
    | true => exact ⟨v, rfl⟩
    | false =>
      refine lookup_isSome (c := c) ?_
      rcases List.mem_cons.mp h with e | h
      · cases e; simp at hb
      · exact h
theorem lookup_fcl {names : Nm} {n : Str} {c : Addr} (hf : (n, .free) ∈ names) (hc : env.cells.lookup n = some c) : (fcl env names).reverse.lookup n = some c := by
  have hm : (n, c) ∈ (fcl env names).reverse := by
    rw [List.mem_reverse]
    exact List.mem_filterMap.mpr ⟨(n, .free), hf, by simp [hc]⟩
  obtain ⟨c', e⟩ := lookup_isSome hm
  have := (mem_fcl (mem_of_lookup e)).1
  rw [hc] at this; cases this
  exact e
theorem fcl_apart (ha : env.cells.Pairwise fun x y => x.2 ≠ y.2) : ∀ {names : Nm}, noDup names = true → (fcl env names).Pairwise fun x y => x.2 ≠ y.2
  | [], _ => List.Pairwise.nil
  | x :: r, h => by
    unfold noDup at h
    rw [Bool.and_eq_true] at h
    have ihh := fcl_apart ha h.2
    unfold fcl
    rw [List.filterMap_cons]
    split
    · exact ihh
    · rename_i b e
      refine List.pairwise_cons.mpr ⟨fun y hy q => ?_, ihh⟩
      have hx : env.cells.lookup b.1 = some b.2 ∧ b.1 = x.1 := by
        split at e
        · obtain ⟨c', e1, e2⟩ := Option.map_eq_some_iff.mp e
          cases e2; exact ⟨e1, rfl⟩
        · first | exact no_some e | cases e
      have hy' := mem_fcl (env := env) (names := r) (n := y.1) (c := y.2) (List.mem_reverse.mpr hy)
      have := name_of_addr ha (mem_of_lookup hx.1) (q ▸ mem_of_lookup hy'.1)
      have hall := List.all_eq_true.mp h.1 (y.1, .free) hy'.2
      rw [← hx.2, this] at hall
      simp at hall
theorem lookup_compNm {f : NameKind → NameKind} : ∀ {names : Nm} {x : Str}, (names.map fun y => (y.1, f y.2)).lookup x = (names.lookup x).map f
  | [], _ => rfl
  | (k, v) :: r, x => by
    rw [List.map_cons, List.lookup_cons, List.lookup_cons]
    cases x == k with
    | true => rfl
    | false => exact lookup_compNm
theorem compNm_eq (scope : Scope) : compNm scope = scope.names.map fun y => (y.1, if y.2 == .free then .cell else y.2) := by
  unfold compNm
  refine List.map_congr_left fun x _ => ?_
  split <;> rename_i h <;> simp [h]
theorem own_mem : ∀ {names : Nm} {x : Str}, x ∈ (ownNames names).map (·.1) → (x, .local) ∈ names ∨ (x, .cell) ∈ names
  | [], _, h => by cases h
  | (y, k) :: r, x, h => by
    have rest : x ∈ (ownNames r).map (·.1) → (x, NameKind.local) ∈ (y, k) :: r ∨ (x, NameKind.cell) ∈ (y, k) :: r := fun h => (own_mem h).imp (List.mem_cons_of_mem _) (List.mem_cons_of_mem _)
    cases k with
    | «local» =>
      rcases List.mem_cons.mp h with e | h
      · subst e; exact .inl List.mem_cons_self
      · exact rest h
    | cell =>
      rcases List.mem_cons.mp h with e | h
      · subst e; exact .inr List.mem_cons_self
      · exact rest h
    | _ => exact rest h
theorem own_get : ∀ {names : Nm} {x : Str}, rget (ownNames names) x = none
  | [], _ => rfl
  | (y, k) :: r, x => by
    have ihh := own_get (names := r) (x := x)
    cases k with
    | «local» =>
      show rget ((y, none) :: ownNames r) x = none
      unfold rget
      split
      · rfl
      · exact ihh
    | cell =>
      show rget ((y, none) :: ownNames r) x = none
      unfold rget
      split
      · rfl
      · exact ihh
    | _ => exact ihh
theorem freeVals_spec : ∀ {names : Nm} {fr : List (Str × V)}, freeVals ρ names = some fr → (∀ x W, fr.lookup x = some W → rget ρ x = some W ∧ (x, .free) ∈ names) ∧ ∀ x, (x, .free) ∈ names → ∃ W, fr.lookup x = some W
  | [], fr, h => by cases h; exact ⟨fun _ _ e => (by cases e), fun _ e => (by cases e)⟩
  | (y, k) :: r, fr, h => by
    have rest : k ≠ .free → freeVals ρ r = some fr → (∀ x W, fr.lookup x = some W → rget ρ x = some W ∧ (x, .free) ∈ (y, k) :: r) ∧ ∀ x, (x, .free) ∈ (y, k) :: r → ∃ W, fr.lookup x = some W := fun hk h => by
      obtain ⟨a, b⟩ := freeVals_spec h
      refine ⟨fun x W e => ⟨(a x W e).1, List.mem_cons_of_mem _ (a x W e).2⟩, fun x hx => ?_⟩
      rcases List.mem_cons.mp hx with e | hx
      · cases e; exact absurd rfl hk
      · exact b x hx
    cases k with
    | free =>
      simp only [freeVals] at h
      split at h
      · rename_i v l h1 h2
        cases h
        obtain ⟨a, b⟩ := freeVals_spec h2
        refine ⟨fun x W e => ?_, fun x hx => ?_⟩
        · rw [List.lookup_cons] at e
          cases hb : x == y with
          | true =>
            rw [hb] at e; cases e
            have := beq_iff_eq.mp hb
            subst this
            exact ⟨h1, List.mem_cons_self⟩
          | false => rw [hb] at e; exact ⟨(a x W e).1, List.mem_cons_of_mem _ (a x W e).2⟩
        · rw [List.lookup_cons]
          cases hb : x == y with
          | true => exact ⟨v, rfl⟩
          | false =>
            refine b x ?_
            rcases List.mem_cons.mp hx with e | hx
            · cases e; simp at hb
            · exact hx
      · first | exact no_some h | cases h
    | _ => exact rest (by decide) h
end Mine
namespace Mine
open PySem PySem.Calls PyProof.Rows
variable {prog : Program} {w : World} {A : Around} {s : Shared} {h₀ : Heap} {μ : List Addr} {σ σ' : Store} {N : Nat} {env : Env} {cx : Cx} {ρ ρ' : Rho} {P : Pg} {mg mb : Str → Option Value} {T : Tb} {ih : Ev}
/-- the block of a comprehension in the machine -/
noncomputable abbrev cenvOf (scope : Scope) (C : Addr) (env : Env) : Env :=
  { newEnv scope C env.globals (fcl env scope.names).reverse env.qual none .none (some env) builtinsNs with scope := relabel scope env }
theorem compOk_inv {scope : Scope} (h : compOk cx scope = true) : cx.fr = [] ∧ scope.kind = .function ∧ noDup scope.names = true ∧ ∀ x ∈ scope.names, (x.2 = .local ∧ scope.names.lookup x.1 = some .local) ∨ (x.2 = .free ∧ cx.nm.lookup x.1 = some .cell ∧ scope.names.lookup x.1 = some .free) ∨ x.2 = .globalImplicit := by
  unfold compOk at h
  simp only [Bool.and_eq_true, List.all_eq_true, Bool.or_eq_true, beq_iff_eq] at h
  obtain ⟨⟨⟨h1, h2⟩, h3⟩, h4⟩ := h
  refine ⟨List.isEmpty_iff.mp h1, h2, h3, fun x hx => ?_⟩
  rcases h4 x hx with (⟨a, b⟩ | ⟨⟨a, b⟩, c⟩) | a
  · exact .inl ⟨a, b⟩
  · exact .inr (.inl ⟨a, b, c⟩)
  · exact .inr (.inr a)
theorem relabel_names (K : EnvOK h₀ μ s.heap env cx ρ) {scope : Scope} (hc : compOk cx scope = true) : (relabel scope env).names = compNm scope := by
  obtain ⟨_, _, _, h4⟩ := compOk_inv hc
  unfold relabel compNm
  dsimp only
  refine List.map_congr_left fun x hx => ?_
  obtain ⟨x, k⟩ := x
  rw [kindOf_eq K, K.kind]
  rcases h4 (x, k) hx with ⟨a, _⟩ | ⟨a, b, _⟩ | a <;> dsimp only at a <;> subst a
  · rfl
  · dsimp only at b
    simp [b]
  · rfl
theorem cellsFree (K : EnvOK h₀ μ s.heap env cx ρ) {scope : Scope} {fr : List (Str × V)} (hc : compOk cx scope = true) (hf : freeVals ρ scope.names = some fr) {x : Str} (hx : (x, .free) ∈ scope.names) :
    ∃ W c v, fr.lookup x = some W ∧ env.cells.lookup x = some c ∧ s.heap.IsCell c (some v) ∧ Rep h₀ s.heap μ v W := by
  obtain ⟨_, _, _, h4⟩ := compOk_inv hc
  obtain ⟨a, b⟩ := freeVals_spec hf
  obtain ⟨W, e⟩ := b x hx
  obtain ⟨e1, _⟩ := a x W e
  have hk : cx.nm.lookup x = some .cell := by
    rcases h4 _ hx with ⟨q, _⟩ | ⟨_, q, _⟩ | q
    · cases q
    · exact q
    · cases q
  obtain ⟨c, v, g1, g2, g3⟩ := K.cellV x W e1 hk
  exact ⟨W, c, v, e, g1, g2, g3⟩
theorem cenvOK (K : EnvOK h₀ μ s.heap env cx ρ) {scope : Scope} {fr : List (Str × V)} (hc : compOk cx scope = true) (hf : freeVals ρ scope.names = some fr) {C : Addr} {m : Str → Option Value} (hn : s.heap.Ns C m) (h0 : h₀.get? C = none) (hμ : C ∉ μ) :
    EnvOK h₀ μ s.heap (cenvOf scope C env) ⟨compNm scope, fr⟩ (ownNames scope.names) := by
  obtain ⟨h1, h2, h3, h4⟩ := compOk_inv hc
  obtain ⟨fa, fb⟩ := freeVals_spec hf
  refine ⟨h2, relabel_names K hc, K.glob, K.blt, h0, hμ, ⟨m, hn, fun x V e => (by rw [own_get] at e; cases e)⟩, ?_, fun x c hx => ?_, fun x hx => ?_, fun x V e => (by rw [own_get] at e; cases e), fun x V e => ?_⟩
  · show (fcl env scope.names).reverse.Pairwise _
    rw [List.pairwise_reverse]
    exact List.Pairwise.imp (fun h q => h q.symm) (fcl_apart K.apart h3)
  · obtain ⟨a, b⟩ := mem_fcl hx
    obtain ⟨p, q, v, r⟩ := K.cells x c (mem_of_lookup a)
    exact ⟨p, q, v, r⟩
  · left
    have hx' : (x, NameKind.local) ∈ scope.names := by
      rcases own_mem hx with h | h
      · exact h
      · rcases h4 _ h with ⟨q, _⟩ | ⟨q, _⟩ | q <;> cases q
    have hl : scope.names.lookup x = some .local := by
      rcases h4 _ hx' with ⟨_, q⟩ | ⟨q, _⟩ | q
      · exact q
      · cases q
      · cases q
    show (compNm scope).lookup x = _
    rw [compNm_eq, lookup_compNm (f := fun k => if k == .free then .cell else k), hl]
    rfl
  · obtain ⟨e1, hx⟩ := fa x V e
    obtain ⟨W, c, v, g0, g1, g2, g3⟩ := cellsFree K hc hf hx
    have e' : fr.lookup x = some V := e
    rw [g0] at e'; cases e'
    exact ⟨c, v, lookup_fcl hx g1, g2, g3⟩
theorem frW_comp {scope : Scope} {fr : List (Str × V)} (hf : freeVals ρ scope.names = some fr) {C b : Addr} (h : frW (cenvOf scope C env) ⟨compNm scope, fr⟩ b) : b = C := by
  rcases h with h | ⟨x, hx, hn⟩
  · exact h
  · obtain ⟨_, hm⟩ := mem_fcl hx
    obtain ⟨W, e⟩ := (freeVals_spec hf).2 x hm
    have hn' : fr.lookup x = none := hn
    rw [e] at hn'; cases hn'
/-- an address that no one bears any more -/
theorem Stt.but (S : Stt prog w h₀ μ σ s) {C : Addr} (h0 : h₀.get? C = none) (hμ : C ∉ μ) (hT : ∀ items, ¬ s.heap.IsTuple C items) {h' : Heap} (hs : Heap.SameBut C s.heap h') : Stt prog w h₀ μ σ { s with heap := h' } ∧ ∀ a items, s.heap.IsTuple a items → h'.IsTuple a items := by
  have ht : ∀ a items, s.heap.IsTuple a items → h'.IsTuple a items := fun a items t => by
    obtain ⟨o, h1, r⟩ := id t
    exact ⟨o, (hs.2 a fun q => hT items (q ▸ t)).trans h1, r⟩
  refine ⟨⟨fun b o e => (hs.2 b fun q => by rw [q, h0] at e; cases e).trans (S.base b o e), S.out, S.nodup, S.len, fun n c e => ?_⟩, ht⟩
  obtain ⟨ad, e1, x⟩ := S.cell n c e
  refine ⟨ad, e1, ?_⟩
  have := x.grow (ν := []) ht fun o e => (hs.2 ad fun q => hμ (q ▸ List.mem_of_getElem? e1)).trans e
  rwa [List.append_nil] at this
theorem Evo.but {F : Addr → Prop} {μ μ' : List Addr} {s0 s : Shared} (E0 : Evo F μ s0 μ' s) {C : Addr} (hf : s0.heap.get? C = none) {h' : Heap} (hs : Heap.SameBut C s.heap h') : Evo F μ s0 μ' { s with heap := h' } := by
  obtain ⟨⟨⟨h1, t1, rfl⟩, kp, lv⟩, gr⟩ := E0
  have nj : ∀ b o, s0.heap.get? b = some o → b ≠ C := fun b o e q => by rw [q, hf] at e; cases e
  refine ⟨⟨⟨h', t1, rfl⟩, fun b o e n => (hs.2 b (nj b o e)).trans (kp b o e n), fun b o e => ?_⟩, gr⟩
  obtain ⟨o', e'⟩ := lv b o e
  exact ⟨o', (hs.2 b (nj b o e)).trans e'⟩
/-- what the machine does with the finished row -/
inductive UseOK (prog : Program) (w : World) (A : Around) (h₀ : Heap) (μ : List Addr) (s : Shared) (env : Env) (cx : Cx) (σ' : Store) (V' : V) : Option (Value → Sem Unit) → (Value → Shared → Prop) → Prop
  | plain {Q : Value → Shared → Prop} : (∀ v s', PV prog w h₀ μ s σ' V' v s' → Q v s') → UseOK prog w A h₀ μ s env cx σ' V' none Q
  | use {u : Value → Sem Unit} {ρ ρ'' : Rho} {Q : Value → Shared → Prop} : EnvOK h₀ μ s.heap env cx ρ →
      (∀ v s' μ', Stt prog w h₀ μ' σ' s' → EnvOK h₀ μ' s'.heap env cx ρ → Rep h₀ s'.heap μ' v V' → wpAny (model prog w) A (u v) (PN prog w h₀ μ' σ' env cx s' ρ'') noE s') →
      (∀ s3 μ', Stt prog w h₀ μ' σ' s3 → EnvOK h₀ μ' s3.heap env cx ρ'' → Evo (frW env cx) μ s μ' s3 → Q .none s3) → UseOK prog w A h₀ μ s env cx σ' V' (some u) Q
theorem comp_ok (W : Wd h₀ P mg mb) (H : Snd prog w h₀ N ih) (R : Rm A (N + 3)) {e : Expr} {gens : List Comprehension} {scope : Scope} {pos : Pos} {em : Value → Env → Sem Unit} {newAcc : Sem Value} {acc0 : Cell} {emit : Cx → Nat → Rho → Store → Option Store} {V' : V}
    (CR : CompRules prog w e gens em) (hcl : clausesOf e = gens)
    (hA : ∀ {s : Shared} {μ : List Addr} {σ : Store} {Q : Value → Shared → Prop}, Stt prog w h₀ μ σ s → (∀ s', Stt prog w h₀ (μ ++ [s.heap.objs.size]) (σ ++ [acc0]) s' → Evo noX μ s (μ ++ [s.heap.objs.size]) s' → Q (.ref s.heap.objs.size) s') → wpAny (model prog w) A newAcc Q noE s)
    (EM : ∀ {cenv : Env} {cx' : Cx} {accN : Nat} {d : Addr} {ρ : Rho} {σ σ' : Store} {s : Shared} {μ : List Addr}, Stt prog w h₀ μ σ s → EnvOK h₀ μ s.heap cenv cx' ρ → μ[accN]? = some d → emit cx' accN ρ σ = some σ' → wpAny (model prog w) A (em (.ref d) cenv) (PU prog w h₀ μ s σ') noE s)
    (S : Stt prog w h₀ μ σ s) (K : EnvOK h₀ μ s.heap env cx ρ) (h : comp T ih cx gens scope acc0 emit ρ σ = some (V', σ')) {use : Option (Value → Sem Unit)} {Q : Value → Shared → Prop} (U : UseOK prog w A h₀ μ s env cx σ' V' use Q) {first : Sem Value} (hfirst : ∀ g gs, gens = g :: gs → first = eval g.iter env) :
    wpAny (model prog w) A (comprehension e scope env pos newAcc false first use) Q noE s := by
  unfold comp at h
  split at h
  · first | exact no_some h | cases h
  · rename_i g gs
    first | refine obI h fun hz h => ?_
    obtain ⟨hok, hz⟩ := hz
    first | refine obyVS h fun I σ1 h1 h => ?_ | refine obyWS h fun I σ1 h1 h => ?_ | refine obyIS h fun I σ1 h1 h => ?_ | refine obyRS h fun I σ1 h1 h => ?_ | refine obyBS h fun I σ1 h1 h => ?_
    first | refine obxR h fun fr hfr h => ?_ | refine obxS h fun fr hfr h => ?_ | refine obxV h fun fr hfr h => ?_ | refine obxB h fun fr hfr h => ?_ | refine obxI h fun fr hfr h => ?_ | refine obxL h fun fr hfr h => ?_ | refine obxW h fun fr hfr h => ?_ | refine obxP h fun fr hfr h => ?_
    first | refine obyVS h fun ρ2 σ2 h2 h => ?_ | refine obyWS h fun ρ2 σ2 h2 h => ?_ | refine obyIS h fun ρ2 σ2 h2 h => ?_ | refine obyRS h fun ρ2 σ2 h2 h => ?_ | refine obyBS h fun ρ2 σ2 h2 h => ?_
    cases h
    obtain ⟨k1, k2, k3, k4⟩ := compOk_inv hok
    have hclos : closureFor scope env = pure (fcl env scope.names).reverse := clos_eq fun x hx hf => by
      obtain ⟨W', c, v, _, g1, _⟩ := cellsFree K hok hfr (x := x.1) (by obtain ⟨x1, x2⟩ := x; dsimp only at hf; subst hf; exact hx)
      exact ⟨c, g1⟩
    obtain ⟨hs, hev⟩ := iterE_ok W H R S K h1
    rw [hfirst g gs rfl]
    refine wpAny_comprehension_free hcl hs hclos k2 (fun x hx hl => ?_) (wm hev fun x s1 hx => wm hx fun itv s2 ⟨it, ow, μ2, q, S2, i2, fr2, E2⟩ => hA S2 fun s3 S3 E3 => ?_)
    · rcases k4 x hx with ⟨_, a⟩ | ⟨a, _⟩ | a
      · exact a
      · rw [hl] at a; cases a
      · rw [hl] at a; cases a
    subst q
    refine wpAny_newFunctionEnv (fun x hx hk => ?_) (by simp) (fun h4 hn4 hs4 => ?_) k2
    · rcases k4 x hx with ⟨a, _⟩ | ⟨a, _⟩ | a <;> rw [hk] at a <;> cases a
    · -- the block stands
      generalize hC : s3.heap.objs.size = C at hn4 hs4 ⊢
      have fC3 : s3.heap.get? C = none := hC ▸ get_size s3.heap
      have kp4 : ∀ b o, s3.heap.get? b = some o → h4.get? b = some o := fun b o e => (hs4.2 b fun q => by rw [q, fC3] at e; cases e).trans (Heap.get?_push_of_some _ e)
      have E4 : Evo noX (μ2 ++ [s2.heap.objs.size]) s3 (μ2 ++ [s2.heap.objs.size]) { s3 with heap := h4, toks := s3.toks + ([] : List (Str × Value)).length } := .ofNo (Stp.kept _ kp4)
      have S4 := S3.stp0 (Stp.kept (s3.toks + ([] : List (Str × Value)).length) kp4)
      have E04 := (E2.tr E3).tr E4
      have K4 := K.evo0 S E04
      have fC0 : s.heap.get? C = none := (E2.tr E3).stp.fresh fC3
      have cμ : C ∉ μ2 ++ [s2.heap.objs.size] := fun q => by
        obtain ⟨o, e, _⟩ := S3.shape q
        rw [fC3] at e; cases e
      have C4 := cenvOK (s := { s3 with heap := h4, toks := s3.toks + ([] : List (Str × Value)).length }) K4 hok hfr hn4 (S.fresh0 fC0) cμ
      have i4 : ItAt h₀ h4 (μ2 ++ [s2.heap.objs.size]) it ow I := by
        have i3 : ItAt h₀ s3.heap (μ2 ++ [s2.heap.objs.size]) it ow I := i2.keep (E3.tup S2 fun _ _ q => q.elim) fun b hb o e => E3.keep e (let ⟨_, o', vs, e', d⟩ := i2.owned b hb; S2.notFields e' d) id
        exact i3.keep0 (fun a items ⟨o, e, r⟩ => ⟨o, kp4 _ _ e, r⟩) fun b _ o e => kp4 b o e
      have ha : (μ2 ++ [s2.heap.objs.size])[σ1.length]? = some s2.heap.objs.size := last_at S2 _
      have IN := compGs_ok (T := T) W H R CR (accN := σ1.length) (d := s2.heap.objs.size) (env := cenvOf scope C env) (cx := ⟨compNm scope, fr⟩) (emit := emit ⟨compNm scope, fr⟩ σ1.length) (fun S K ha h => EM S K ha h) gs 0 rfl
      have hg : (g :: gs)[0]? = some ⟨g.target, g.iter, g.ifs, 0⟩ := congrArg some (g_eta g hz)
      have fin := compL_ok H R CR hg IN (s0 := s) (μ0 := μ) fr2 S4 C4 i4 ha (E04.up) h2
      refine CR.start hg (fun Q' hq => reiter (s := { s3 with heap := h4, toks := s3.toks + ([] : List (Str × Value)).length }) i4 Q' hq) (codeAny_mono fin fun r s7 ⟨⟨f, hf⟩, μ7, S7, K7, E7, m7⟩ => ?_)
      subst hf
      have E7' : Evo noX μ s μ7 s7 := E7.weak fun b hb => by
        rw [frW_comp hfr hb]; exact .inr fC0
      have hT7 : ∀ items, ¬ s7.heap.IsTuple C items := fun items => K7.frTup C items (.inl rfl)
      obtain ⟨m, hn7, _⟩ := K7.ns
      cases U with
      | plain hq =>
        refine ⟨m, hn7, fun h8 hs8 => hq _ _ ?_⟩
        obtain ⟨S8, t8⟩ := S7.but (S.fresh0 fC0) K7.lμ hT7 hs8
        exact ⟨μ7, S8, .obj m7, E7'.but fC0 hs8⟩
      | @use u ρ0 ρ'' _ K0 hu hq =>
        have K7o := K0.evo0 S E7'
        refine wm (hu _ s7 μ7 S7 K7o (.obj m7)) fun _ s8 ⟨S8, K8, E8⟩ => ?_
        have nC : ¬ frW env cx C := fun q => by
          obtain ⟨_, _, o, e, _⟩ := K.frIn (frW_sub q)
          rw [fC0] at e; cases e
        have hn8 : s8.heap.Ns C m := hn7.at' fun o e => E8.keep e K7.lμ nC
        have hT8 : ∀ items, ¬ s8.heap.IsTuple C items := fun items ⟨o, e, _, n, d⟩ => by
          obtain ⟨o', es, ep, e', d', _⟩ := hn8
          rw [e] at e'; cases e'; rw [d] at d'; cases d'
        refine ⟨m, hn8, fun h9 hs9 => ?_⟩
        obtain ⟨S9, t9⟩ := S8.but (S.fresh0 fC0) K7.lμ hT8 hs9
        have K9 : EnvOK h₀ μ7 h9 env cx ρ'' := by
          have := K8.move (ν := []) t9 (fun b o f e => (hs9.2 b fun q => by
            subst q
            obtain ⟨_, _, o2, e2, _⟩ := K.frIn f
            rw [fC0] at e2; cases e2).trans e) (by simp)
          rwa [List.append_nil] at this
        exact hq _ μ7 S9 K9 ((E7'.up.tr E8).but fC0 hs9)
end Mine
namespace Mine
open PySem PySem.Calls PyProof.Rows
variable {prog : Program} {w : World} {A : Around} {s : Shared} {h₀ : Heap} {μ : List Addr} {σ σ' : Store} {N : Nat} {env : Env} {cx : Cx} {ρ ρ' : Rho} {P : Pg} {mg mb : Str → Option Value} {T : Tb} {ih : Ev}
theorem accList {Q : Value → Shared → Prop} (S : Stt prog w h₀ μ σ s) (hQ : ∀ s', Stt prog w h₀ (μ ++ [s.heap.objs.size]) (σ ++ [.list []]) s' → Evo noX μ s (μ ++ [s.heap.objs.size]) s' → Q (.ref s.heap.objs.size) s') : wpAny (model prog w) A (newList []) Q noE s := by
  obtain ⟨S3, E3⟩ := S.alloc (t := s.toks) (o := { cls := .type "list", data := .seq ([] : List Value).toArray }) (c := .list []) ⟨[], ⟨_, Heap.get?_push_size _ rfl⟩, .nil⟩
  exact wpAny_newList (hQ _ S3 E3)
theorem accDict {Q : Value → Shared → Prop} (S : Stt prog w h₀ μ σ s) (hQ : ∀ s', Stt prog w h₀ (μ ++ [s.heap.objs.size]) (σ ++ [.dict [] 0]) s' → Evo noX μ s (μ ++ [s.heap.objs.size]) s' → Q (.ref s.heap.objs.size) s') : wpAny (model prog w) A newDict Q noE s := by
  obtain ⟨S3, E3⟩ := emptyDict S
  simp only [newDict, newObj]
  exact wpAny_bind (wpAny_alloc (wpAny_pure (hQ _ S3 E3)))
theorem async0 {gens : List Comprehension} {scope : Scope} {acc0 : Cell} {emit : Cx → Nat → Rho → Store → Option Store} {z : V × Store} (h : comp T ih cx gens scope acc0 emit ρ σ = some z) : firstAsync gens = false ∧ ∀ g gs, gens = g :: gs → firstIter gens env = eval g.iter env := by
  unfold comp at h
  split at h
  · first | exact no_some h | cases h
  · rename_i g gs
    first | refine obI h fun hz h => ?_
    obtain ⟨_, hz⟩ := hz
    rw [g_eta g hz]
    exact ⟨rfl, fun g' gs' q => by cases q; rfl⟩
theorem stepE_full (W : Wd h₀ P mg mb) (TK : TbOK prog w h₀ N mg T) (H : Snd prog w h₀ N ih) (R : Rm A (N + 3)) (S : Stt prog w h₀ μ σ s) (K : EnvOK h₀ μ s.heap env cx ρ) {e : Expr} {V' : V} (h : stepE T ih cx e ρ σ = some (V', σ')) :
    wpAny (model prog w) A (eval e env) (PV prog w h₀ μ s σ' V') noE s := by
  refine stepE_ok W TK H R S K (fun hc => ?_) h
  cases e with
  | ListComp elt gens scope pos =>
    have h' : comp T ih cx gens scope (.list []) (fun cx' acc => emitList ih cx' acc elt) ρ σ = some (V', σ') := h
    obtain ⟨h1, h2⟩ := async0 (env := env) h'
    rw [eval_ListComp, h1]
    exact comp_ok W H R (rulesL elt gens scope pos) rfl (fun S hQ => accList S hQ) (fun S K ha h => emitL_ok H R S K ha h) S K h' (.plain fun _ _ x => x) h2
  | DictComp k v gens scope pos =>
    have h' : ∃ g, gens = [g] ∧ comp T ih cx gens scope (.dict [] 0) (fun cx' acc => emitDict ih cx' acc k v) ρ σ = some (V', σ') := by
      match gens, h with
      | [], h => cases h
      | [g], h => exact ⟨g, rfl, h⟩
      | _ :: _ :: _, h => cases h
    obtain ⟨g, _, h'⟩ := h'
    obtain ⟨h1, h2⟩ := async0 (env := env) h'
    rw [arm_eval_DictComp]
    dsimp only
    rw [h1]
    exact comp_ok W H R (rulesD k v gens scope pos) rfl (fun S hQ => accDict S hQ) (fun S K ha h => emitD_ok H R S K ha h) S K h' (.plain fun _ _ x => x) h2
  | SetComp => cases h
  | _ => cases hc
/-- a row of a comprehension bound to a name of its own line -/
theorem assignComp (W : Wd h₀ P mg mb) (TK : TbOK prog w h₀ N mg T) (H : Snd prog w h₀ N ih) (R : Rm A (N + 3)) (S : Stt prog w h₀ μ σ s) (K : EnvOK h₀ μ s.heap env cx ρ) {x : Str} {xp pos : Pos} {e : Expr} {V' : V} (hb : compBound cx x xp e = true)
    (h : stepE T ih cx e ρ σ = some (V', σ')) (hr : rset ρ x V' = some ρ') : wpAny (model prog w) A (exec (.Assign [.Name x xp] e pos) env) (PS prog w h₀ μ s env cx .next ρ' σ') noE s := by
  cases e with
  | ListComp elt gens scope p =>
    have h' : comp T ih cx gens scope (.list []) (fun cx' acc => emitList ih cx' acc elt) ρ σ = some (V', σ') := h
    obtain ⟨h1, h2⟩ := async0 (env := env) h'
    have hs : swapsWith (.ListComp elt gens scope p) (some (.Name x xp)) pos.line env = pure true := by
      have hb : (cx.nm.lookup x == some .local && xp.line == p.line && !(scope.names.any fun (n, k) => n == x && (k == .local || k == .cell)) && gens.length == 1) = true := hb
      simp only [Bool.and_eq_true] at hb
      obtain ⟨⟨⟨b1, b2⟩, b3⟩, _⟩ := hb
      show (pure (env.blockKind == .function && env.kindOf x == some .local && xp.line == p.line && !(scope.names.any fun (n, k) => n == x && (k == .local || k == .cell))) : Sem Bool) = pure true
      have hbk : env.blockKind = .function := by unfold Env.blockKind; rw [K.kind]; rfl
      rw [hbk, kindOf_eq K, b1, b2, b3]
      rfl
    rw [exec_Assign_Name_used _ _ _ _ hs]
    refine wpAny_bind (wpAny_standAt (wpAny_bind ?_))
    show wpAny _ A (do let _ ← comprehension (.ListComp elt gens scope p) scope env _ (newList []) (firstAsync gens) (firstIter gens env) (some (assign (.Name x xp) env))) _ _ s
    rw [h1]
    refine wpAny_bind (wm (comp_ok (Q := fun _ s' => PS prog w h₀ μ s env cx .next ρ' σ' .next s') W H R (rulesL elt gens scope p) rfl (fun S hQ => accList S hQ) (fun S K ha h => emitL_ok H R S K ha h) S K h' (.use (ρ := ρ) (ρ'' := ρ') K (fun v s' μ' S' K' r' => assignT_ok (t := .Name x xp) R S' K' r' hr)
      fun s3 μ' S3 K3 E3 => ⟨μ', .next, S3, K3, E3⟩) h2) fun _ s' hq => wpAny_pure (wpAny_pure hq))
  | _ => cases hb
theorem noSwap {e : Expr} {o : Option Expr} {l : Nat} (h : isComp e = false) : swapsWith e o l env = pure false := by
  cases e <;> first | rfl | cases h
theorem noSwapS {e t : Expr} {l : Nat} (h : isComp e = false) : swapsWithSole [t] e l env = pure false := by
  unfold swapsWithSole
  exact noSwap h
theorem stmt_ok (W : Wd h₀ P mg mb) (TK : TbOK prog w h₀ N mg T) (H : Snd prog w h₀ N ih) (HC : ∀ {cx : Cx} {e : Expr} {ρ : Rho} {σ : Store} {z : V × Store}, isComp e = true → ih.e cx e ρ σ = some z → ∃ ih', Snd prog w h₀ N ih' ∧ stepE T ih' cx e ρ σ = some z) (R : Rm A (N + 3)) (S : Stt prog w h₀ μ σ s) (K : EnvOK h₀ μ s.heap env cx ρ) {st : Stmt} {fl : Fl}
    (h : stmt T ih cx st ρ σ = some (fl, ρ', σ')) : wpAny (model prog w) A (exec st env) (PS prog w h₀ μ s env cx fl ρ' σ') noE s := by
  cases st with
  | Assign ts e p => cases ts with
    | nil => exact no_some h
    | cons t ts => cases ts with
      | cons t2 ts => cases t <;> exact no_some h
      | nil => cases t with
        | Name x p =>
          delta stmt at h; dsimp only at h
          -- x = e
          first | refine obI h fun hc h => ?_
          first | refine obyVS h fun v σ1 h1 h => ?_ | refine obyWS h fun v σ1 h1 h => ?_ | refine obyIS h fun v σ1 h1 h => ?_ | refine obyRS h fun v σ1 h1 h => ?_ | refine obyBS h fun v σ1 h1 h => ?_
          first | refine obxR h fun ρ1 h2 h => ?_ | refine obxS h fun ρ1 h2 h => ?_ | refine obxV h fun ρ1 h2 h => ?_ | refine obxB h fun ρ1 h2 h => ?_ | refine obxI h fun ρ1 h2 h => ?_ | refine obxL h fun ρ1 h2 h => ?_ | refine obxW h fun ρ1 h2 h => ?_ | refine obxP h fun ρ1 h2 h => ?_
          cases h
          by_cases hic : isComp ‹Expr› = false
          · exact wpAny_Assign_Name (wm (H.e R S K h1) fun u s1 ⟨μ1, S1, r1, E1⟩ => wm (store_ok (K.evo0 S E1) S1 r1 h2) fun _ s2 ⟨S2, K2, E2⟩ => ⟨μ1, .next, S2, K2, E1.up.tr E2⟩) (noSwap hic)
          · have hic' : isComp ‹Expr› = true := by simpa using hic
            rcases hc with q | q
            · exact absurd q hic
            · obtain ⟨ih', H', h3⟩ := HC hic' h1
              exact assignComp W TK H' R S K q h3 h2
        | Tuple tsx kx px =>
          delta stmt at h; dsimp only at h
          -- a, b = e
          first | refine obI h fun hc h => ?_
          obtain ⟨c1, c2, c3⟩ := hc
          split at h
          · rename_i vs σ1 h1
            first | refine obxR h fun ρ1 h2 h => ?_ | refine obxS h fun ρ1 h2 h => ?_ | refine obxV h fun ρ1 h2 h => ?_ | refine obxB h fun ρ1 h2 h => ?_ | refine obxI h fun ρ1 h2 h => ?_ | refine obxL h fun ρ1 h2 h => ?_ | refine obxW h fun ρ1 h2 h => ?_ | refine obxP h fun ρ1 h2 h => ?_
            cases h
            have hic : isComp ‹Expr› = false := by
              generalize ‹Expr› = e at c1
              cases e <;> first | rfl | cases c1
            rw [exec_Assign_arm]
            refine wpAny_bind (wpAny_standAt ?_)
            refine wpAny_bind (wpAny_of_eq (noSwapS hic) ?_)
            rw [if_neg (by decide)]
            refine wpAny_bind (wm (H.e R S K h1) fun u s1 ⟨μ1, S1, r1, E1⟩ => ?_)
            have K1 := K.evo0 S E1
            rcases swapped_cases (env := env) c2 c1 with hw | hw
            · refine wpAny_bind (wpAny_of_eq hw ?_)
              unfold assignStores
              refine wpAny_bind ?_
              refine wm (assignT_ok (t := .Tuple tsx kx px) R S1 K1 r1 h2) fun _ s2 ⟨S2, K2, E2⟩ => wpAny_pure ⟨μ1, .next, S2, K2, E1.up.tr E2⟩
            · refine wpAny_bind (wpAny_of_eq hw ?_)
              obtain ⟨g1, g2⟩ := bindP_setNames h2
              obtain ⟨ρ'', b1, b2, b3⟩ := bindP_rev g1 c3
              obtain ⟨a, us, rfl, ht, l⟩ := r1.tup_inv
              have hlen : (namesOfT ‹List Expr›).length = us.toArray.size := by
                have := (bindP_spec g1 c3).1
                rw [this, List.size_toArray, l.len]
              unfold assignStores
              refine wpAny_bind (wpAny_rule ?_)
              rw [hlen]
              refine wpAny_bind (wpAny_unpackItems_tuple R.hh ht fun h' he => ?_)
              obtain ⟨S2, E2⟩ := extNew S1 he
              have rr : RepL h₀ h' μ1 us.reverse vs.reverse := by
                have r2 := E2.repL0 S1 l
                refine ⟨by simp [l.len], fun i v' W' e1 e2 => ?_⟩
                have hi : i < us.length := by have := (List.getElem?_eq_some_iff.mp e1).1; simpa using this
                rw [List.getElem?_reverse hi] at e1
                rw [List.getElem?_reverse (l.len ▸ hi), ← l.len] at e2
                exact r2.at' _ v' W' e1 e2
              refine wpAny_bind (wm (bindP_ok (s := { s1 with heap := h' }) _ S2 (K1.evo0 S1 E2) (by simpa using rr) b1) fun _ s3 ⟨S3, K3, E3⟩ => wpAny_pure ⟨μ1, .next, S3, K3.ext b2 b3, (E1.tr E2).up.tr E3⟩)
          · first | exact no_some h | cases h
        | Subscript oo ii pp =>
          delta stmt at h; dsimp only at h
          -- o[i] = e
          first | refine obI h fun hc h => ?_
          first | refine obyVS h fun v σ1 h1 h => ?_ | refine obyWS h fun v σ1 h1 h => ?_ | refine obyIS h fun v σ1 h1 h => ?_ | refine obyRS h fun v σ1 h1 h => ?_ | refine obyBS h fun v σ1 h1 h => ?_
          first | refine obyVS h fun a σ2 h2 h => ?_ | refine obyWS h fun a σ2 h2 h => ?_ | refine obyIS h fun a σ2 h2 h => ?_ | refine obyRS h fun a σ2 h2 h => ?_ | refine obyBS h fun a σ2 h2 h => ?_
          first | refine obyVS h fun j σ3 h3 h => ?_ | refine obyWS h fun j σ3 h3 h => ?_ | refine obyIS h fun j σ3 h3 h => ?_ | refine obyRS h fun j σ3 h3 h => ?_ | refine obyBS h fun j σ3 h3 h => ?_
          first | refine obxR h fun σ4 h4 h => ?_ | refine obxS h fun σ4 h4 h => ?_ | refine obxV h fun σ4 h4 h => ?_ | refine obxB h fun σ4 h4 h => ?_ | refine obxI h fun σ4 h4 h => ?_ | refine obxL h fun σ4 h4 h => ?_ | refine obxW h fun σ4 h4 h => ?_ | refine obxP h fun σ4 h4 h => ?_
          cases h
          refine wpAny_Assign_Subscript (wm (H.e R S K h1) fun u s1 ⟨μ1, S1, r1, E1⟩ => wm (H.e R S1 (K.evo0 S E1) h2) fun ov s2 ⟨μ2, S2, r2, E2⟩ => wm (H.e R S2 ((K.evo0 S E1).evo0 S1 E2) h3) fun iv s3 ⟨μ3, S3, r3, E3⟩ => ?_) (noSwap hc)
          exact wm (setitem_ok (N := N + 2) R S3 (E3.rep0 S2 r2) r3 (E3.rep0 S2 (E2.rep0 S1 r1)) h4) fun _ s4 ⟨μ4, S4, E4⟩ => ⟨μ4, .next, S4, K.evo0 S (((E1.tr E2).tr E3).tr E4), (((E1.tr E2).tr E3).tr E4).up⟩
        | _ => exact no_some h
  | AugAssign t op e p => cases t with
    | Name x xp => cases op with
      | Add =>
        delta stmt at h; dsimp only at h
        -- x += e
        split at h
        · rename_i a h1
          split at h
          · rename_i b σ1 h2
            first | refine obxR h fun ρ1 h3 h => ?_ | refine obxS h fun ρ1 h3 h => ?_ | refine obxV h fun ρ1 h3 h => ?_ | refine obxB h fun ρ1 h3 h => ?_ | refine obxI h fun ρ1 h3 h => ?_ | refine obxL h fun ρ1 h3 h => ?_ | refine obxW h fun ρ1 h3 h => ?_ | refine obxP h fun ρ1 h3 h => ?_
            cases h
            have hx : cx.nm.lookup ‹Str› ≠ some .globalImplicit := fun q => by
              rcases K.own _ (rset_spec h3).2.2 with e | ⟨e, _⟩ <;> rw [q] at e <;> cases e
            refine wpAny_AugAssign_Name (nameLoad S K hx h1 fun v r => wm (H.e R S K h2) fun u s1 ⟨μ1, S1, r1, E1⟩ => ?_)
            obtain ⟨t1, rfl⟩ := r.int_inv
            obtain ⟨t2, rfl⟩ := r1.int_inv
            refine wpAny_iadd_int ?_
            have St := Stp.toks noX s1 (s1.toks + 1)
            have E2 : Evo noX μ1 s1 μ1 { s1 with toks := s1.toks + 1 } := .ofNo St
            exact wm (store_ok ((K.evo0 S E1).evo0 S1 E2) (S1.stp0 St) (.int _ _) h3) fun _ s2 ⟨S2, K2, E3⟩ => ⟨μ1, .next, S2, K2, (E1.tr E2).up.tr E3⟩
          · first | exact no_some h | cases h
        · first | exact no_some h | cases h
      | _ => exact no_some h
    | _ => exact no_some h
  | Expr e p => cases e with
    | Call f args ks cp =>
      delta stmt at h; dsimp only at h
      -- a call for itself
      first | refine obyVS h fun v σ1 h1 h => ?_ | refine obyWS h fun v σ1 h1 h => ?_ | refine obyIS h fun v σ1 h1 h => ?_ | refine obyRS h fun v σ1 h1 h => ?_ | refine obyBS h fun v σ1 h1 h => ?_
      cases h
      refine wpAny_Expr_any (wm (H.e R S K h1) fun u s1 ⟨μ1, S1, r1, E1⟩ => ⟨μ1, .next, S1, K.evo0 S E1, E1.up⟩) ?_ rfl
      unfold interactive; rw [K.kind]; rfl
    | _ => exact no_some h
  | If test body orelse p =>
    delta stmt at h; dsimp only at h
    -- if
    have fin : ∀ {b : Bool} {body : List Stmt} {σ1 : Store} {s1 : Shared} {μ1 : List Addr}, Stt prog w h₀ μ1 σ1 s1 → Evo noX μ s μ1 s1 → ih.s cx body ρ σ1 = some (fl, ρ', σ') → wpAny (model prog w) A (execs body env) (PS prog w h₀ μ s env cx fl ρ' σ') noE s1 :=
      fun S1 E1 h => wm (H.s R S1 (K.evo0 S E1) h) fun f s2 ⟨μ2, f2, S2, K2, E2⟩ => ⟨μ2, f2, S2, K2, E1.up.tr E2⟩
    split at h
    · rename_i σ1 h1
      refine wpAny_If (wm (H.t R S K h1) fun b s1 ⟨q, μ1, S1, E1⟩ => ?_)
      subst q
      exact fin (b := true) S1 E1 h
    · rename_i σ1 h1
      refine wpAny_If (wm (H.t R S K h1) fun b s1 ⟨q, μ1, S1, E1⟩ => ?_)
      subst q
      exact fin (b := true) S1 E1 h
    · first | exact no_some h | cases h
  | While test body orelse p => cases orelse with
    | nil =>
      exact whileE H R S K h
    | cons a r => exact no_some h
  | For t it body orelse p => cases orelse with
    | nil =>
      delta stmt at h; dsimp only at h
      first | refine obyVS h fun I σ1 h1 h => ?_ | refine obyWS h fun I σ1 h1 h => ?_ | refine obyIS h fun I σ1 h1 h => ?_ | refine obyRS h fun I σ1 h1 h => ?_ | refine obyBS h fun I σ1 h1 h => ?_
      exact forE W H R S K h1 h
    | cons a r => exact no_some h
  | Return v p => cases v with
    | some e =>
      delta stmt at h; dsimp only at h
      first | refine obyVS h fun v σ1 h1 h => ?_ | refine obyWS h fun v σ1 h1 h => ?_ | refine obyIS h fun v σ1 h1 h => ?_ | refine obyRS h fun v σ1 h1 h => ?_ | refine obyBS h fun v σ1 h1 h => ?_
      cases h
      exact wpAny_Return_some (wm (H.e R S K h1) fun u s1 ⟨μ1, S1, r1, E1⟩ => ⟨μ1, .ret r1, S1, K.evo0 S E1, E1.up⟩)
    | none => exact no_some h
  | Continue p =>
    cases h
    exact wpAny_Continue ⟨μ, .cont, S, K, .refl _ _ _⟩
  | _ => exact no_some h
theorem stmts_ok (W : Wd h₀ P mg mb) (TK : TbOK prog w h₀ N mg T) (H : Snd prog w h₀ N ih) (HC : ∀ {cx : Cx} {e : Expr} {ρ : Rho} {σ : Store} {z : V × Store}, isComp e = true → ih.e cx e ρ σ = some z → ∃ ih', Snd prog w h₀ N ih' ∧ stepE T ih' cx e ρ σ = some z) (R : Rm A (N + 3)) :
    ∀ (ss : List Stmt) {ρ ρ' : Rho} {σ σ' : Store} {s : Shared} {μ : List Addr} {fl : Fl}, Stt prog w h₀ μ σ s → EnvOK h₀ μ s.heap env cx ρ → stmts T ih cx ss ρ σ = some (fl, ρ', σ') → wpAny (model prog w) A (execs ss env) (PS prog w h₀ μ s env cx fl ρ' σ') noE s
  | [], ρ, ρ', σ, σ', s, μ, fl, S, K, h => by
    cases h
    exact wpAny_execs_nil ⟨μ, .next, S, K, .refl _ _ _⟩
  | st :: r, ρ, ρ', σ, σ', s, μ, fl, S, K, h => by
    unfold stmts at h
    refine wpAny_execs_cons ?_
    split at h
    · rename_i ρ1 σ1 h1
      refine wm (stmt_ok W TK H HC R S K h1) fun f s1 ⟨μ1, f1, S1, K1, E1⟩ => ?_
      cases f1
      exact wm (stmts_ok W TK H HC R r S1 K1 h) fun f s2 ⟨μ2, f2, S2, K2, E2⟩ => ⟨μ2, f2, S2, K2, E1.tr E2⟩
    · rename_i ρ1 σ1 h1
      cases h
      refine wm (stmt_ok W TK H HC R S K h1) fun f s1 ⟨μ1, f1, S1, K1, E1⟩ => ?_
      cases f1
      exact ⟨μ1, .cont, S1, K1, E1⟩
    · rename_i v ρ1 σ1 h1
      cases h
      refine wm (stmt_ok W TK H HC R S K h1) fun f s1 ⟨μ1, f1, S1, K1, E1⟩ => ?_
      cases f1 with
      | ret r => exact ⟨μ1, .ret r, S1, K1, E1⟩
    · first | exact no_some h | cases h
theorem ev_ok (W : Wd h₀ P mg mb) (TK : TbOK prog w h₀ N mg T) : ∀ d, Snd prog w h₀ N (ev T d)
  | 0 => ⟨fun _ _ _ h => (by cases h), fun _ _ _ h => (by cases h), fun _ _ _ h => (by cases h)⟩
  | d + 1 => by
    have H := ev_ok W TK d
    refine ⟨fun R S K h => stepE_full W TK H R S K h, fun R S K h => stepT_ok (T := T) W H R S K h, fun R S K h => stmts_ok W TK H (fun {cx e ρ σ z} hc he => ?_) R _ S K h⟩
    cases d with
    | zero => cases he
    | succ d => exact ⟨ev T d, ev_ok W TK d, he⟩
end Mine
namespace Mine
open PySem PySem.Calls PyProof.Rows
variable {prog : Program} {w : World} {A : Around} {s : Shared} {h₀ : Heap} {μ : List Addr} {σ σ' : Store} {N : Nat} {env : Env} {cx : Cx} {ρ ρ' : Rho} {P : Pg} {mg mb : Str → Option Value} {T : Tb} {ih : Ev}
theorem fmap_congr {α β : Type} {f g : α → Option β} : ∀ {l : List α}, (∀ x ∈ l, f x = g x) → l.filterMap f = l.filterMap g
  | [], _ => rfl
  | x :: r, h => by
    rw [List.filterMap_cons, List.filterMap_cons, h x List.mem_cons_self, fmap_congr fun y hy => h y (List.mem_cons_of_mem _ hy)]
theorem zip_filter : ∀ {ns : List Str} {vs : List Value}, ns.Nodup → ns.length = vs.length → (ns.filterMap fun n => ((ns.zip vs).lookup n).map (n, ·)) = ns.zip vs ∧ ns.filter (fun n => ((ns.zip vs).lookup n).isNone) = []
  | [], [], _, _ => ⟨rfl, rfl⟩
  | [], _ :: _, _, h => by cases h
  | _ :: _, [], _, h => by cases h
  | n :: ns, v :: vs, hn, hl => by
    obtain ⟨h1, h2⟩ := List.nodup_cons.mp hn
    obtain ⟨a, b⟩ := zip_filter h2 (by simpa using hl) (vs := vs)
    have hrest : ∀ m ∈ ns, ((n, v) :: ns.zip vs).lookup m = (ns.zip vs).lookup m := fun m hm => by
      rw [List.lookup_cons]
      have : (m == n) = false := beq_eq_false_iff_ne.mpr fun q => h1 (q ▸ hm)
      rw [this]
    have hself : ((n, v) :: ns.zip vs).lookup n = some v := by rw [List.lookup_cons]; simp
    refine ⟨?_, ?_⟩
    · rw [List.zip_cons_cons, List.filterMap_cons, hself]
      simp only [Option.map_some]
      congr 1
      exact (fmap_congr fun m hm => by rw [hrest m hm]).trans a
    · rw [List.zip_cons_cons, List.filter_cons, hself]
      simp only [Option.isNone_some, Bool.false_eq_true, if_false]
      exact (List.filter_congr fun m hm => by rw [hrest m hm]).trans b
theorem noDup_nodup : ∀ {names : Nm}, noDup names = true → (names.map (·.1)).Nodup
  | [], _ => List.nodup_nil
  | x :: r, h => by
    unfold noDup at h
    rw [Bool.and_eq_true] at h
    rw [List.map_cons]
    refine List.nodup_cons.mpr ⟨fun q => ?_, noDup_nodup h.2⟩
    obtain ⟨y, hy, e⟩ := List.mem_map.mp q
    have := List.all_eq_true.mp h.1 y hy
    rw [e] at this
    simp at this
theorem bind_plain {fd : FuncData} {vs : List Value} (hp : plainParams fd.params = true) (hd : fd.defaults = .none) (hn : (fd.params.args.map (·.arg)).Nodup) (hl : (fd.params.args.map (·.arg)).length = vs.length) :
    bindArgs fd ⟨vs, []⟩ = pure ((fd.params.args.map (·.arg)).zip vs) := by
  obtain ⟨z1, z2⟩ := zip_filter hn hl
  unfold plainParams at hp
  simp only [Bool.and_eq_true, List.isEmpty_iff, Option.isNone_iff_eq_none] at hp
  obtain ⟨⟨⟨⟨⟨p1, p2⟩, p3⟩, p4⟩, p5⟩, p6⟩ := hp
  unfold bindArgs
  simp only [p1, p2, p3, p4, hd, List.map_nil, List.nil_append]
  rw [List.forIn_nil, pure_bind]
  have hs : seqItems? Value.none = pure none := rfl
  have hz : ((fd.params.args.map (·.arg)).take (fd.params.args.map (·.arg)).length) = fd.params.args.map (·.arg) := List.take_length
  have hgt : ¬ (decide (vs.length > (fd.params.args.map (·.arg)).length) && (none : Option Arg).isNone) = true := by
    simp only [Option.isNone_none, Bool.and_true, decide_eq_true_eq]
    exact fun q => Nat.ne_of_lt q hl
  simp only [hs, pure_bind, Option.getD_none, hgt, if_false, List.drop_nil, List.length_nil, Nat.sub_zero, hz, z2, List.isEmpty_nil, Bool.not_true, Bool.false_eq_true, List.drop_length, List.zip_nil_left, List.forIn_nil, List.append_nil, z1]
theorem Rm.deeper (r : Rm A (N + 1)) (env : Env) : Rm (A.deeper env) N := ⟨r.hh, by have := r.depth; show A.depth + 1 + N < _; exact ar14 this, by have := r.units; show A.units + 3 + 10 * N < _; exact ar90 this⟩
theorem cellsFrom_mem : ∀ {names : Nm} {k : Nat} {acc : List (Str × Addr)} {n : Str} {c : Addr}, (n, c) ∈ cellsFrom k names acc → (n, c) ∈ acc ∨ (n, .cell) ∈ names
  | [], _, _, _, _, h => .inl h
  | (x, kd) :: r, k, acc, n, c, h => by
    unfold cellsFrom at h
    split at h
    · rename_i hk
      rcases cellsFrom_mem h with h | h
      · rcases List.mem_cons.mp h with e | h
        · first | exact no_some e | cases e
          have : kd = .cell := by simpa using hk
          exact .inr (this ▸ List.mem_cons_self)
        · exact .inl h
      · exact .inr (List.mem_cons_of_mem _ h)
    · exact (cellsFrom_mem h).imp id (List.mem_cons_of_mem _)
theorem cellsFrom_acc : ∀ {names : Nm} {k : Nat} {acc : List (Str × Addr)} {y : Str × Addr}, y ∈ acc → y ∈ cellsFrom k names acc
  | [], _, _, _, h => h
  | (x, kd) :: r, k, acc, y, h => by
    unfold cellsFrom
    split
    · exact cellsFrom_acc (List.mem_cons_of_mem _ h)
    · exact cellsFrom_acc h
theorem cellsFrom_has : ∀ {names : Nm} {k : Nat} {acc : List (Str × Addr)} {n : Str}, (n, NameKind.cell) ∈ names → ∃ c, (n, c) ∈ cellsFrom k names acc
  | (x, kd) :: r, k, acc, n, h => by
    unfold cellsFrom
    rcases List.mem_cons.mp h with e | h
    · first | exact no_some e | cases e
      simp only [beq_self_eq_true, if_true]
      exact ⟨k, cellsFrom_acc List.mem_cons_self⟩
    · split
      · exact cellsFrom_has h
      · exact cellsFrom_has h
theorem cellsFrom_keys : ∀ {names : Nm} {k : Nat} {acc : List (Str × Addr)}, noDup names = true → (acc.Pairwise fun x y => x.1 ≠ y.1) → (∀ y ∈ acc, ∀ x ∈ names, x.1 ≠ y.1) → (cellsFrom k names acc).Pairwise fun x y => x.1 ≠ y.1
  | [], _, _, _, h, _ => h
  | x :: r, k, acc, hn, h, hd => by
    obtain ⟨n, kd⟩ := x
    unfold noDup at hn
    rw [Bool.and_eq_true] at hn
    unfold cellsFrom
    split
    · refine cellsFrom_keys hn.2 (List.pairwise_cons.mpr ⟨fun y hy => hd y hy (n, kd) List.mem_cons_self, h⟩) fun y hy x hx => ?_
      rcases List.mem_cons.mp hy with rfl | hy
      · have := List.all_eq_true.mp hn.1 x hx
        intro q
        simp [q] at this
      · exact hd y hy x (List.mem_cons_of_mem _ hx)
    · exact cellsFrom_keys hn.2 h fun y hy x hx => hd y hy x (List.mem_cons_of_mem _ hx)
theorem lookup_of_keys : ∀ {l : List (Str × Addr)} {n : Str} {c : Addr}, (l.Pairwise fun x y => x.1 ≠ y.1) → (n, c) ∈ l → l.lookup n = some c
  | (k, v) :: r, n, c, hp, h => by
    obtain ⟨h1, h2⟩ := List.pairwise_cons.mp hp
    rw [List.lookup_cons]
    rcases List.mem_cons.mp h with e | h
    · cases e; simp
    · have : (n == k) = false := beq_eq_false_iff_ne.mpr fun q => h1 (n, c) h q.symm
      rw [this]
      exact lookup_of_keys h2 h
/-- the parameters, bound on both sides -/
theorem bind_rel {kindOf : Str → Option NameKind} {h : Heap} : ∀ {ns : List Str} {vs : List Value} {Vs : List V} {ρ ρ' : Rho} {m cm : Str → Option Value}, RepL h₀ h μ vs Vs → bindP ns Vs ρ = some ρ' →
    (∀ x V, rget ρ x = some V → (kindOf x = some .local → ∃ v, m x = some v ∧ Rep h₀ h μ v V) ∧ (kindOf x = some .cell → ∃ v, cm x = some v ∧ Rep h₀ h μ v V)) →
    ns.length = vs.length ∧ ρ'.map (·.1) = ρ.map (·.1) ∧ ∀ x V, rget ρ' x = some V → (kindOf x = some .local → ∃ v, bindL kindOf (ns.zip vs) m x = some v ∧ Rep h₀ h μ v V) ∧ (kindOf x = some .cell → ∃ v, bindC kindOf (ns.zip vs) cm x = some v ∧ Rep h₀ h μ v V)
  | [], vs, Vs, ρ, ρ', m, cm, r, e, h => by
    cases Vs with
    | nil =>
      cases e
      have : vs = [] := List.length_eq_zero_iff.mp r.len
      subst this
      exact ⟨rfl, rfl, h⟩
    | cons => cases e
  | n :: ns, vs, Vs, ρ, ρ', m, cm, r, e, h => by
    obtain ⟨v, Vs', ρ1, rfl, h1, e⟩ := bindP_inv e
    cases vs with
    | nil => cases r.len
    | cons u us =>
      obtain ⟨g1, g2, g3⟩ := rset_spec h1
      have := bind_rel (kindOf := kindOf) (m := if kindOf n = some .local then fun y => if y = n then some u else m y else m) (cm := if kindOf n = some .local then cm else fun y => if y = n then some u else cm y) r.tail e fun x V hx => by
        rw [g1] at hx
        by_cases q : x = n
        · subst q
          rw [if_pos rfl] at hx; cases hx
          refine ⟨fun hk => ⟨u, by rw [if_pos hk, if_pos rfl], r.head⟩, fun hk => ⟨u, ?_, r.head⟩⟩
          rw [if_neg (by rw [hk]; decide), if_pos rfl]
        · rw [if_neg q] at hx
          obtain ⟨a, b⟩ := h x V hx
          refine ⟨fun hk => ?_, fun hk => ?_⟩
          · obtain ⟨v', c, d⟩ := a hk
            refine ⟨v', ?_, d⟩
            split
            · exact (if_neg q).trans c
            · exact c
          · obtain ⟨v', c, d⟩ := b hk
            refine ⟨v', ?_, d⟩
            split
            · exact c
            · exact (if_neg q).trans c
      obtain ⟨k1, k2, k3⟩ := this
      refine ⟨by simp [k1], k2.trans g2, fun x V hx => ?_⟩
      rw [List.zip_cons_cons]
      unfold bindL bindC
      exact k3 x V hx
theorem find_mem {f : Str} {d : DefRec} (h : P.find f = some d) : d ∈ P.tbl ∧ d.name = f := by
  unfold Pg.find at h
  exact ⟨List.mem_of_find?_eq_some h, by have := List.find?_some h; simpa using this⟩
theorem okDef_inv {d : DefRec} (h : okDef d = true) : plainParams d.params = true ∧ d.scope.isGenerator = false ∧ d.scope.isCoroutine = false ∧ d.scope.kind = .function ∧ (∀ x ∈ d.params.args.map (·.arg), d.scope.names.lookup x = some .local ∨ d.scope.names.lookup x = some .cell) ∧
    (∀ x ∈ d.scope.names, d.scope.names.lookup x.1 = some x.2) ∧ noDup d.scope.names = true ∧ (d.params.args.map (·.arg)).Nodup := by
  unfold okDef at h
  simp only [Bool.and_eq_true, List.all_eq_true, Bool.or_eq_true, beq_iff_eq, Bool.not_eq_true'] at h
  obtain ⟨⟨⟨⟨⟨⟨⟨h1, h2⟩, h3⟩, h4⟩, h5⟩, h6⟩, h7⟩, h8⟩ := h
  refine ⟨h1, h2, h3, h4, h5, h6, h7, ?_⟩
  have := noDup_nodup h8
  rwa [List.map_map] at this
/-- a call of a function of the table, by its text -/
theorem callStep {n : Nat} {f : Str} {a : Addr} {Vs : List V} {vs : List Value} {V' : V} (W : Wd h₀ P mg mb) (TK : TbOK prog w h₀ n mg ⟨fun g => (P.find g).isSome, P.gl, callF P n⟩) (R : Rm A (n + 1 + 3)) (S : Stt prog w h₀ μ σ s) (r : RepL h₀ s.heap μ vs Vs)
    (hmg : mg f = some (.ref a)) (h : callF P (n + 1) f Vs σ = some (V', σ')) :
    codeAny (model prog w) A (.call (.ref a) ⟨vs, []⟩) (fun r s' => match r with | .ok (.ret v) => PV prog w h₀ μ s σ' V' v s' | .ok _ => False | .error e => noE e s') s := by
  unfold callF at h
  split at h
  · first | exact no_some h | cases h
  · rename_i d hd
    split at h
    · rename_i hok
      split at h
      · first | exact no_some h | cases h
      · rename_i ρ hb
        obtain ⟨hm, hname⟩ := find_mem hd
        obtain ⟨a', o, pm, code, doc, h1, h2, h3, h4⟩ := W.fn d hm
        rw [hname, hmg] at h1
        cases h1
        obtain ⟨k1, k2, k3, k4, k5, k6, k7, k8⟩ := okDef_inv hok
        have hlen : (d.params.args.map (·.arg)).length = vs.length := by rw [(bindP_spec hb k8).1, r.len]
        refine codeAny_call_cells (fd := docDef d.name d.params d.body d.scope pm code doc) (body := d.body) (binds := (d.params.args.map (·.arg)).zip vs) (by have := R.depth; unfold recursionLimit; exact ar92 this) (S.base _ _ h2) h3 (W.lim.keeps S.base) (h4.keeps S.base) rfl
          (bind_plain (fd := docDef d.name d.params d.body d.scope pm code doc) k1 rfl k8 hlen) rfl (fun x hx => ?_) (fun s1 X => ?_) k3 k2 k4
        · have hx1 : x.1 ∈ d.params.args.map (·.arg) := (List.of_mem_zip (a := x.1) (b := x.2) hx).1
          rcases k5 _ hx1 with q | q
          · exact .inl q
          · refine .inr ⟨q, ?_⟩
            obtain ⟨c, hc⟩ := cellsFrom_has (k := s.heap.objs.size + 1) (acc := []) (mem_of_lookup q)
            obtain ⟨c', e⟩ := lookup_isSome hc
            show ((cellsFrom (s.heap.objs.size + 1) d.scope.names []).lookup x.1).isSome = true
            rw [e]; rfl
        · generalize hL : s.heap.objs.size = L at X ⊢
          obtain ⟨⟨⟨h', tk', rfl⟩, hns, hkeep, hfresh⟩, hcell, hap, habv⟩ := X
          have hkeep : ∀ b o, s.heap.get? b = some o → h'.get? b = some o := hkeep
          have St := Stp.kept (X := noX) (s := s) tk' hkeep
          have S1 := S.stp0 St
          have E1 : Evo noX μ s μ { s with heap := h', toks := tk' } := .ofNo St
          have r1 := E1.repL0 S r
          have big : ∀ b, L ≤ b → s.heap.get? b = none := fun b hb => by
            cases q : s.heap.get? b with
            | none => rfl
            | some o => exact absurd (Heap.lt_size q) (Nat.not_lt.mpr (hL ▸ hb))
          have nμ : ∀ b, L ≤ b → b ∉ μ := fun b hb q => by
            obtain ⟨o, e, _⟩ := S.shape q
            rw [big b hb] at e; cases e
          obtain ⟨b1, b2, b3⟩ := bind_rel (kindOf := (callEnvC (docDef d.name d.params d.body d.scope pm code doc) L a).kindOf) (m := fun _ => none) (cm := fun _ => none) r1 hb (fun x V e => by rw [own_get] at e; cases e)
          have kd : ∀ x, (callEnvC (docDef d.name d.params d.body d.scope pm code doc) L a).kindOf x = d.scope.names.lookup x := fun _ => rfl
          have keys := cellsFrom_keys (k := L + 1) (acc := []) k7 List.Pairwise.nil (fun y hy => by cases hy)
          have K1 : EnvOK h₀ μ h' (callEnvC (docDef d.name d.params d.body d.scope pm code doc) L a) ⟨d.scope.names, []⟩ ρ := by
            refine ⟨k4, rfl, rfl, rfl, S.fresh0 (big L (Nat.le_refl _)), nμ L (Nat.le_refl _), ⟨_, hns, fun x V e q => (b3 x V e).1 ((kd x).trans q)⟩, hap, fun x c hc => ?_, fun x hx => ?_, fun x V e q => ?_, fun x V e => by cases e⟩
            · have lt : L < c := habv x c hc
              exact ⟨S.fresh0 (big c (Nat.le_of_lt lt)), nμ c (Nat.le_of_lt lt), _, hcell x c (lookup_of_keys keys hc)⟩
            · rw [b2] at hx
              rcases own_mem hx with q | q
              · exact .inl (k6 _ q)
              · refine .inr ⟨k6 _ q, ?_, rfl⟩
                obtain ⟨c, hc⟩ := cellsFrom_has (k := L + 1) (acc := []) q
                obtain ⟨c', e⟩ := lookup_isSome hc
                show ((cellsFrom (L + 1) d.scope.names []).lookup x).isSome = true
                rw [e]; rfl
            · obtain ⟨v, e1, rv⟩ := (b3 x V e).2 ((kd x).trans q)
              obtain ⟨c, hc⟩ := cellsFrom_has (k := L + 1) (acc := []) (mem_of_lookup q)
              have hlk := lookup_of_keys keys hc
              exact ⟨c, v, hlk, e1 ▸ hcell x c hlk, rv⟩
          have body := fun (fl : Fl) (ρ' : Rho) (σ' : Store) => (ev_ok (prog := prog) (w := w) W TK dFuel).s (ρ' := ρ') (σ' := σ') (A := A.deeper (callEnvC (docDef d.name d.params d.body d.scope pm code doc) L a)) (env := callEnvC (docDef d.name d.params d.body d.scope pm code doc) L a) (s := { s with heap := h', toks := tk' }) (fl := fl) (e := d.body) (Rm.deeper R _) S1 K1
          have fr : ∀ b, frW (callEnvC (docDef d.name d.params d.body d.scope pm code doc) L a) ⟨d.scope.names, []⟩ b → s.heap.get? b = none := fun b q => by
            rcases q with q | ⟨x, hx, _⟩
            · exact q ▸ big L (Nat.le_refl _)
            · exact big b (Nat.le_of_lt (habv x b hx))
          split at h
          · rename_i v ρ2 σ2 hbod
            cases h
            refine wm (body _ _ _ hbod) fun fl s2 ⟨μ2, f2, S2, K2, E2⟩ => ?_
            cases f2 with
            | ret rr => exact ⟨μ2, S2, rr, E1.trans E2 (fun _ q => q.elim) fun b q => .inr (fr b q)⟩
          · rename_i ρ2 σ2 hbod
            cases h
            refine wm (body _ _ _ hbod) fun fl s2 ⟨μ2, f2, S2, K2, E2⟩ => ?_
            cases f2
            exact ⟨μ2, S2, .none, E1.trans E2 (fun _ q => q.elim) fun b q => .inr (fr b q)⟩
          · first | exact no_some h | cases h
    · first | exact no_some h | cases h
/-- every function of the table, by its text -/
theorem call_ok (W : Wd h₀ P mg mb) : ∀ n, TbOK prog w h₀ n mg ⟨fun g => (P.find g).isSome, P.gl, callF P n⟩
  | 0 => ⟨W.gl, fun f hf => by
      obtain ⟨d, hd⟩ := Option.isSome_iff_exists.mp hf
      obtain ⟨hm, rfl⟩ := find_mem hd
      obtain ⟨a, o, pm, code, doc, h1, h2, h3, _⟩ := W.fn d hm
      exact ⟨a, o, _, h1, h2, h3⟩, fun _ _ _ _ _ h => by cases h⟩
  | n + 1 => by
    have TK := call_ok W n
    refine ⟨W.gl, (call_ok W n).fn, fun {A f a Vs vs σ σ' s μ V'} R S r hf hmg h => wpAny_call (callStep W TK R S r hmg h)⟩
end Mine
namespace Mine
open PySem PyProof.Rows
noncomputable def gl0 (x : Str) : Option V := if x = Str.ofString "R0" then some (.tup [.int 0, .int 1]) else if x = Str.ofString "MOST_BITS" then some (.int 200000) else if x = Str.ofString "MOST_FAR" then some (.int 20000) else if x = Str.ofString "MOST_WORK" then some (.int 3000000) else none
noncomputable def P0 : Pg := ⟨recsOf PySem.Challenge.pw_xm0132_01, gl0⟩
noncomputable def recAt (i : Nat) : DefRec := match PySem.Challenge.pw_xm0132_01.main.body[i]? with
  | some (.FunctionDef n a b _ _ _ sc _ _ p) => ⟨n, a, b, sc, p⟩
  | _ => ⟨Str.ofString "", ⟨[], [], none, [], [], none, []⟩, [], { kind := .function, names := [], isGenerator := false, isCoroutine := false }, ⟨0, 0, 0, 0⟩⟩
end Mine
namespace Mine
open PySem PyProof.Rows
/-- the table of the program, n calls deep -/
noncomputable def TT (n : Nat) : Tb := ⟨fun g => (P0.find g).isSome, P0.gl, callF P0 n⟩
section
variable {T : Tb} {d : Nat} {cx : Cx} {ρ ρ1 ρ2 : Rho} {σ σ1 σ2 σ3 σ4 : Store} {R : Option (Fl × Rho × Store)} {x : Str} {p q q' : Pos} {k : Nat} {e e1 e2 e3 : Expr} {r body orelse : List Stmt} {v a b : V} {V' : V} {vs ws : List V}
theorem ev_e : (ev T (d + 1)).e = stepE T (ev T d) := rfl
theorem ev_t : (ev T (d + 1)).t = stepT T (ev T d) := rfl
theorem call_in {P : Pg} {n : Nat} {f : Str} {dr : DefRec} {fl : Fl} (hf : P.find f = some dr) (hok : okDef dr = true) (hb : bindP (dr.params.args.map (·.arg)) vs (ownNames dr.scope.names) = some ρ)
    (h : stmts ⟨fun g => (P.find g).isSome, P.gl, callF P n⟩ (ev ⟨fun g => (P.find g).isSome, P.gl, callF P n⟩ 39) ⟨dr.scope.names, []⟩ dr.body ρ σ = some (fl, ρ1, σ1)) (hv : fl = .ret v ∨ (fl = .next ∧ v = .none)) : callF P (n + 1) f vs σ = some (v, σ1) := by
  unfold callF
  rw [hf]
  dsimp only
  rw [if_pos hok, hb]
  have h' : (ev ⟨fun g => (P.find g).isSome, P.gl, callF P n⟩ dFuel).s ⟨dr.scope.names, []⟩ dr.body ρ σ = some (fl, ρ1, σ1) := h
  dsimp only
  rw [h']
  rcases hv with rfl | ⟨rfl, rfl⟩ <;> rfl
theorem S_asg (he : (ev T d).e cx e ρ σ = some (v, σ1)) (hs : rset ρ x v = some ρ1) (hc : isComp e = false ∨ compBound cx x p e = true) (h : stmts T (ev T d) cx r ρ1 σ1 = R) : stmts T (ev T d) cx (.Assign [.Name x p] e q :: r) ρ σ = R := by
  simp only [stmts]; delta stmt; dsimp only
  rw [if_pos hc, he]; dsimp only; rw [hs]; exact h
theorem S_tup {ts : List Expr} (he : (ev T d).e cx e ρ σ = some (.tup vs, σ1)) (hs : setNames ts vs ρ = some ρ1) (hc : tupleOk e = true ∧ simpleTargets ts = true ∧ (namesOfT ts).Nodup) (h : stmts T (ev T d) cx r ρ1 σ1 = R) : stmts T (ev T d) cx (.Assign [.Tuple ts k p] e q :: r) ρ σ = R := by
  simp only [stmts]; delta stmt; dsimp only
  rw [if_pos hc, he]; dsimp only; rw [hs]; exact h
theorem S_set {i : V} (he : (ev T d).e cx e ρ σ = some (v, σ1)) (ho : (ev T d).e cx e1 ρ σ1 = some (a, σ2)) (hi : (ev T d).e cx e2 ρ σ2 = some (i, σ3)) (hs : setitem a i v σ3 = some σ4) (hc : isComp e = false) (h : stmts T (ev T d) cx r ρ σ4 = R) : stmts T (ev T d) cx (.Assign [.Subscript e1 e2 p] e q :: r) ρ σ = R := by
  simp only [stmts]; delta stmt; dsimp only
  rw [if_pos hc, he]; dsimp only; rw [ho]; dsimp only; rw [hi]; dsimp only; rw [hs]; exact h
theorem S_aug {i j : Int} (hn : name T cx x ρ = some (.int i)) (he : (ev T d).e cx e ρ σ = some (.int j, σ1)) (hs : rset ρ x (.int (i + j)) = some ρ1) (h : stmts T (ev T d) cx r ρ1 σ1 = R) : stmts T (ev T d) cx (.AugAssign (.Name x p) .Add e q :: r) ρ σ = R := by
  simp only [stmts]; delta stmt; dsimp only
  rw [hn]; dsimp only; rw [he]; dsimp only; rw [hs]; exact h
theorem S_expr {f : Expr} {args : List Expr} {ks : List Keyword} (he : (ev T d).e cx (.Call f args ks p) ρ σ = some (v, σ1)) (h : stmts T (ev T d) cx r ρ σ1 = R) : stmts T (ev T d) cx (.Expr (.Call f args ks p) q :: r) ρ σ = R := by
  simp only [stmts]; delta stmt; dsimp only
  rw [he]; exact h
theorem S_ifT (ht : (ev T d).t cx e ρ σ = some (true, σ1)) (hb : (ev T d).s cx body ρ σ1 = some (.next, ρ2, σ2)) (h : stmts T (ev T d) cx r ρ2 σ2 = R) : stmts T (ev T d) cx (.If e body orelse q :: r) ρ σ = R := by
  simp only [stmts]; delta stmt; dsimp only
  rw [ht]; dsimp only; rw [hb]; exact h
theorem S_ifTr (ht : (ev T d).t cx e ρ σ = some (true, σ1)) (hb : (ev T d).s cx body ρ σ1 = some (.ret v, ρ2, σ2)) : stmts T (ev T d) cx (.If e body orelse q :: r) ρ σ = some (.ret v, ρ2, σ2) := by
  simp only [stmts]; delta stmt; dsimp only
  rw [ht]; dsimp only; rw [hb]
theorem S_ifTc (ht : (ev T d).t cx e ρ σ = some (true, σ1)) (hb : (ev T d).s cx body ρ σ1 = some (.cont, ρ2, σ2)) : stmts T (ev T d) cx (.If e body orelse q :: r) ρ σ = some (.cont, ρ2, σ2) := by
  simp only [stmts]; delta stmt; dsimp only
  rw [ht]; dsimp only; rw [hb]
theorem S_ifF (ht : (ev T d).t cx e ρ σ = some (false, σ1)) (hb : (ev T d).s cx orelse ρ σ1 = some (.next, ρ2, σ2)) (h : stmts T (ev T d) cx r ρ2 σ2 = R) : stmts T (ev T d) cx (.If e body orelse q :: r) ρ σ = R := by
  simp only [stmts]; delta stmt; dsimp only
  rw [ht]; dsimp only; rw [hb]; exact h
theorem S_ret (he : (ev T d).e cx e ρ σ = some (v, σ1)) : stmts T (ev T d) cx (.Return (some e) q :: r) ρ σ = some (.ret v, ρ, σ1) := by
  simp only [stmts]; delta stmt; dsimp only
  rw [he]
theorem S_cont : stmts T (ev T d) cx (.Continue q :: r) ρ σ = some (.cont, ρ, σ) := rfl
theorem S_nil : stmts T (ev T d) cx [] ρ σ = some (.next, ρ, σ) := rfl
theorem S_while (h1 : whileL (ev T d) cx e body bud ρ σ = some (.next, ρ1, σ1)) (h : stmts T (ev T d) cx r ρ1 σ1 = R) : stmts T (ev T d) cx (.While e body [] q :: r) ρ σ = R := by
  simp only [stmts]; delta stmt; dsimp only
  rw [h1]; exact h
theorem S_whiler (h1 : whileL (ev T d) cx e body bud ρ σ = some (.ret v, ρ1, σ1)) : stmts T (ev T d) cx (.While e body [] q :: r) ρ σ = some (.ret v, ρ1, σ1) := by
  simp only [stmts]; delta stmt; dsimp only
  rw [h1]
theorem S_for {it : It} {t : Expr} (hi : iterE T (ev T d) cx e ρ σ = some (it, σ1)) (h1 : forL (ev T d) cx t body bud it ρ σ1 = some (.next, ρ2, σ2)) (h : stmts T (ev T d) cx r ρ2 σ2 = R) : stmts T (ev T d) cx (.For t e body [] q :: r) ρ σ = R := by
  simp only [stmts]; delta stmt; dsimp only
  rw [hi]; dsimp only; rw [h1]; exact h
theorem S_forr {it : It} {t : Expr} (hi : iterE T (ev T d) cx e ρ σ = some (it, σ1)) (h1 : forL (ev T d) cx t body bud it ρ σ1 = some (.ret v, ρ2, σ2)) : stmts T (ev T d) cx (.For t e body [] q :: r) ρ σ = some (.ret v, ρ2, σ2) := by
  simp only [stmts]; delta stmt; dsimp only
  rw [hi]; dsimp only; rw [h1]
theorem E_const {c : Const} (h : (match c with | .none => some (V.none, σ) | .bool b => some (.bool b, σ) | .int i => some (.int i, σ) | .str s => some (.str s, σ) | _ => Option.none) = some (v, σ1)) : (ev T (d + 1)).e cx (.Constant c k p) ρ σ = some (v, σ1) := h
theorem E_int {i : Int} : (ev T (d + 1)).e cx (.Constant (.int i) k p) ρ σ = some (.int i, σ) := rfl
theorem E_str {s : Str} : (ev T (d + 1)).e cx (.Constant (.str s) k p) ρ σ = some (.str s, σ) := rfl
theorem E_none : (ev T (d + 1)).e cx (.Constant .none k p) ρ σ = some (.none, σ) := rfl
theorem E_bool {c : Bool} : (ev T (d + 1)).e cx (.Constant (.bool c) k p) ρ σ = some (.bool c, σ) := rfl
theorem E_name (h : name T cx x ρ = some v) (hd : (x == Str.ofString "__debug__") = false) : (ev T (d + 1)).e cx (.Name x p) ρ σ = some (v, σ) := by
  rw [ev_e]
  delta stepE; dsimp only
  rw [hd]; dsimp only; rw [h]
theorem E_bin {op : Operator} (h1 : (ev T d).e cx e1 ρ σ = some (a, σ1)) (h2 : (ev T d).e cx e2 ρ σ1 = some (b, σ2)) (h : binop op a b σ2 = some (v, σ3)) : (ev T (d + 1)).e cx (.BinOp e1 op e2 p) ρ σ = some (v, σ3) := by
  rw [ev_e]
  delta stepE; dsimp only
  rw [h1]; dsimp only; rw [h2]; exact h
theorem E_neg {i : Int} (h1 : (ev T d).e cx e1 ρ σ = some (.int i, σ1)) : (ev T (d + 1)).e cx (.UnaryOp .USub e1 p) ρ σ = some (.int (-i), σ1) := by
  rw [ev_e]
  delta stepE; dsimp only
  rw [h1]
theorem E_ifT (ht : (ev T d).t cx e ρ σ = some (true, σ1)) (h1 : (ev T d).e cx e1 ρ σ1 = some (v, σ2)) : (ev T (d + 1)).e cx (.IfExp e e1 e2 p) ρ σ = some (v, σ2) := by
  rw [ev_e]
  delta stepE; dsimp only
  rw [ht]; exact h1
theorem E_ifF (ht : (ev T d).t cx e ρ σ = some (false, σ1)) (h1 : (ev T d).e cx e2 ρ σ1 = some (v, σ2)) : (ev T (d + 1)).e cx (.IfExp e e1 e2 p) ρ σ = some (v, σ2) := by
  rw [ev_e]
  delta stepE; dsimp only
  rw [ht]; exact h1
theorem L_nil : evalL (ev T d) cx [] ρ σ = some ([], σ) := rfl
theorem L_cons (hs : ∀ a b, e ≠ .Starred a b) {es : List Expr} (h1 : (ev T d).e cx e ρ σ = some (v, σ1)) (h2 : evalL (ev T d) cx es ρ σ1 = some (vs, σ2)) : evalL (ev T d) cx (e :: es) ρ σ = some (v :: vs, σ2) := by
  rw [evalL_cons hs, h1]; dsimp only; rw [h2]
theorem E_tup {es : List Expr} (h : evalL (ev T d) cx es ρ σ = some (vs, σ1)) (hl : vs.length < lim) : (ev T (d + 1)).e cx (.Tuple es k p) ρ σ = some (.tup vs, σ1) := by
  rw [ev_e]
  delta stepE; dsimp only
  rw [h]; dsimp only; rw [if_pos hl]
theorem E_list {es : List Expr} (h : evalL (ev T d) cx es ρ σ = some (vs, σ1)) (hl : vs.length < lim) : (ev T (d + 1)).e cx (.List es p) ρ σ = some (.obj σ1.length, σ1 ++ [.list vs]) := by
  rw [ev_e]
  delta stepE; dsimp only
  rw [h]; dsimp only; rw [if_pos hl]
theorem E_dict0 : (ev T (d + 1)).e cx (.Dict [] [] p) ρ σ = some (.obj σ.length, σ ++ [.dict [] 0]) := rfl
theorem E_dict1 {ks : List V} {kk : List Int} {es : List (List Int × V)} {ep : Nat} (h1 : (ev T d).e cx e1 ρ (σ ++ [.dict [] 0]) = some (.tup ks, σ1)) (h2 : (ev T d).e cx e2 ρ σ1 = some (v, σ2)) (h3 : σ2[σ.length]? = some (.dict es ep)) (h4 : intsOf ks = some kk) (hl : es.length < lim) :
    (ev T (d + 1)).e cx (.Dict [some e1] [e2] p) ρ σ = some (.obj σ.length, σ2.set σ.length (setD es ep kk v)) := by
  rw [ev_e]
  delta stepE; dsimp only
  rw [h1]; dsimp only; rw [h2]; dsimp only; rw [h3, h4]; dsimp only; rw [if_pos hl]
theorem E_sub (hs : ∀ a b c d, e2 ≠ .Slice a b c d) (h1 : (ev T d).e cx e1 ρ σ = some (a, σ1)) (h2 : (ev T d).e cx e2 ρ σ1 = some (b, σ2)) (h : getitem a b σ2 = some v) : (ev T (d + 1)).e cx (.Subscript e1 e2 p) ρ σ = some (v, σ2) := by
  rw [ev_e]
  have : stepE T (ev T d) cx (.Subscript e1 e2 p) ρ σ = match (ev T d).e cx e1 ρ σ with
    | some (a, σ1) => match (ev T d).e cx e2 ρ σ1 with
      | some (i, σ2) => match getitem a i σ2 with
        | some r => some (r, σ2)
        | .none => .none
      | .none => .none
    | .none => .none := by
    cases e2 <;> first | rfl | exact absurd rfl (hs _ _ _ _)
  rw [this, h1]; dsimp only; rw [h2]; dsimp only; rw [h]
theorem E_call {f : Str} {args : List Expr} (hg : cx.nm.lookup f = some .globalImplicit ∧ (f == Str.ofString "__debug__") = false ∧ args.length < 20) (hf : T.isFn f = true) (h1 : evalL (ev T d) cx args ρ σ = some (vs, σ1)) (h : T.call f vs σ1 = some (v, σ2)) :
    (ev T (d + 1)).e cx (.Call (.Name f p) args [] q) ρ σ = some (v, σ2) := by
  rw [ev_e]
  delta stepE; dsimp only
  rw [if_pos hg, hf, h1]; exact h
theorem E_bi {f : Str} {args : List Expr} {bi : Bi} (hg : cx.nm.lookup f = some .globalImplicit ∧ (f == Str.ofString "__debug__") = false ∧ args.length < 20) (hf : T.isFn f = false) (hb : biOf f = some bi) (h1 : evalL (ev T d) cx args ρ σ = some (vs, σ1)) (h : biCall bi vs σ1 = some (v, σ2)) :
    (ev T (d + 1)).e cx (.Call (.Name f p) args [] q) ρ σ = some (v, σ2) := by
  rw [ev_e]
  delta stepE; dsimp only
  rw [if_pos hg, hf, hb, h1]; exact h
theorem E_meth {nm : Str} {ap : Pos} {args : List Expr} (hl : args.length < 20 ∧ (ap.endLine == p.line) = true) (h1 : (ev T d).e cx (.Name x q) ρ σ = some (a, σ1)) (hp : methPre a nm σ1 = true) (h2 : evalL (ev T d) cx args ρ σ1 = some (vs, σ2)) (h : methodV a nm vs σ2 = some (v, σ3)) :
    (ev T (d + 1)).e cx (.Call (.Attribute (.Name x q) nm ap) args [] p) ρ σ = some (v, σ3) := by
  rw [ev_e]
  delta stepE; dsimp only
  rw [if_pos hl, h1]; dsimp only; rw [hp, h2]; exact h
theorem E_cmp {op : CmpOp} {c : Bool} (hm : behindInMarks op e2 = false) (h1 : (ev T d).e cx e1 ρ σ = some (a, σ1)) (h2 : (ev T d).e cx e2 ρ σ1 = some (b, σ2)) (h : cmp op a b σ2 = some c) : (ev T (d + 1)).e cx (.Compare e1 [op] [e2] p) ρ σ = some (.bool c, σ2) := by
  rw [ev_e]
  delta stepE; dsimp only
  rw [hm, h1]; dsimp only; rw [h2]; dsimp only; rw [h]
theorem T_cmp {op : CmpOp} {c c' : Bool} (hm : behindInMarks op e2 = false) (h1 : (ev T d).e cx e1 ρ σ = some (a, σ1)) (h2 : (ev T d).e cx e2 ρ σ1 = some (b, σ2)) (h : cmp op a b σ2 = some c) (hc : c = c') : (ev T (d + 1)).t cx (.Compare e1 [op] [e2] p) ρ σ = some (c', σ2) := by
  rw [ev_t]
  delta stepT; dsimp only
  rw [hm, h1]; dsimp only; rw [h2]; dsimp only; rw [h, hc]
theorem T_not {c : Bool} (h : (ev T d).t cx e1 ρ σ = some (!c, σ1)) : (ev T (d + 1)).t cx (.UnaryOp .Not e1 p) ρ σ = some (c, σ1) := by
  rw [ev_t]
  delta stepT; dsimp only
  rw [h]; simp
theorem T_bop {op : BoolOp} {c : Bool} {es : List Expr} (h : boolT (ev T d) cx op es ρ σ = some (c, σ1)) : (ev T (d + 1)).t cx (.BoolOp op es p) ρ σ = some (c, σ1) := h
theorem B_andT {es : List Expr} {c : Bool} (h1 : (ev T d).t cx e ρ σ = some (true, σ1)) (h2 : boolT (ev T d) cx .And es ρ σ1 = some (c, σ2)) : boolT (ev T d) cx .And (e :: es) ρ σ = some (c, σ2) := by
  unfold boolT; rw [h1]; exact h2
theorem B_andF {es : List Expr} (h1 : (ev T d).t cx e ρ σ = some (false, σ1)) : boolT (ev T d) cx .And (e :: es) ρ σ = some (false, σ1) := by
  unfold boolT; rw [h1]
theorem B_orF {es : List Expr} {c : Bool} (h1 : (ev T d).t cx e ρ σ = some (false, σ1)) (h2 : boolT (ev T d) cx .Or es ρ σ1 = some (c, σ2)) : boolT (ev T d) cx .Or (e :: es) ρ σ = some (c, σ2) := by
  unfold boolT; rw [h1]; exact h2
theorem B_orT {es : List Expr} (h1 : (ev T d).t cx e ρ σ = some (true, σ1)) : boolT (ev T d) cx .Or (e :: es) ρ σ = some (true, σ1) := by
  unfold boolT; rw [h1]
theorem B_nilA : boolT (ev T d) cx .And [] ρ σ = some (true, σ) := rfl
theorem B_nilO : boolT (ev T d) cx .Or [] ρ σ = some (false, σ) := rfl
theorem T_call {f : Expr} {args : List Expr} {ks : List Keyword} {c : Bool} (h : (ev T d).e cx (.Call f args ks p) ρ σ = some (.bool c, σ1)) : (ev T (d + 1)).t cx (.Call f args ks p) ρ σ = some (c, σ1) := by
  rw [ev_t]
  delta stepT; dsimp only
  rw [h]
theorem X_s (h : stmts T (ev T d) cx r ρ σ = R) : (ev T (d + 1)).s cx r ρ σ = R := h
theorem O_mul {i j : Int} (h1 : i.natAbs < big) (h2 : j.natAbs < big) : binop .Mult (.int i) (.int j) σ = some (.int (i * j), σ) := if_pos ⟨h1, h2⟩
theorem O_div {i j : Int} (h0 : j ≠ 0) (h1 : i.natAbs < big) (h2 : j.natAbs < big) : binop .FloorDiv (.int i) (.int j) σ = some (.int (i.fdiv j), σ) := if_pos ⟨h0, h1, h2⟩
theorem O_mod {i j : Int} (h0 : j ≠ 0) : binop .Mod (.int i) (.int j) σ = some (.int (i.fmod j), σ) := if_pos h0
theorem O_add {i j : Int} : binop .Add (.int i) (.int j) σ = some (.int (i + j), σ) := rfl
theorem O_sub {i j : Int} : binop .Sub (.int i) (.int j) σ = some (.int (i - j), σ) := rfl
theorem O_pow {i j : Int} (h : 0 ≤ j ∧ j ≤ 10000 ∧ i.natAbs < big) : binop .Pow (.int i) (.int j) σ = some (.int (i ^ j.toNat), σ) := if_pos h
end
end Mine
namespace Mine
open PySem PyProof.Rows
section
variable {T : Tb} {d : Nat} {cx : Cx} {α : Type}
/-- a while in steps: none is a failure, some none the end -/
noncomputable def iterF (step : α → Option (Option α)) : Nat → α → Option α
  | 0, _ => none
  | k + 1, a => match step a with
    | none => none
    | some none => some a
    | some (some a') => iterF step k a'
theorem while_rel {test : Expr} {body : List Stmt} {step : α → Option (Option α)} (Rel : α → Rho → Store → Prop)
    (hT : ∀ a a' ρ σ, step a = some (some a') → Rel a ρ σ → ∃ σ1 ρ2 σ2 fl, (ev T d).t cx test ρ σ = some (true, σ1) ∧ (ev T d).s cx body ρ σ1 = some (fl, ρ2, σ2) ∧ (fl = .next ∨ fl = .cont) ∧ Rel a' ρ2 σ2)
    (hF : ∀ a ρ σ, step a = some none → Rel a ρ σ → ∃ σ1, (ev T d).t cx test ρ σ = some (false, σ1) ∧ Rel a ρ σ1) :
    ∀ (k j : Nat) (a r : α) (ρ : Rho) (σ : Store), iterF step k a = some r → Rel a ρ σ → ∃ ρ' σ', whileL (ev T d) cx test body (k + j) ρ σ = some (.next, ρ', σ') ∧ Rel r ρ' σ'
  | 0, _, _, _, _, _, h, _ => by cases h
  | k + 1, j, a, r, ρ, σ, h, hr => by
    unfold iterF at h
    rw [Nat.succ_add]
    unfold whileL
    split at h
    · first | exact no_some h | cases h
    · rename_i hs
      cases h
      obtain ⟨σ1, h1, h2⟩ := hF _ ρ σ hs hr
      rw [h1]
      exact ⟨ρ, σ1, rfl, h2⟩
    · rename_i a' hs
      obtain ⟨σ1, ρ2, σ2, fl, h1, h2, h3, h4⟩ := hT _ _ ρ σ hs hr
      obtain ⟨ρ', σ', g1, g2⟩ := while_rel Rel hT hF k j a' r ρ2 σ2 h h4
      refine ⟨ρ', σ', ?_, g2⟩
      rw [h1]; dsimp only; rw [h2]
      rcases h3 with rfl | rfl <;> exact g1
theorem bud_split {k : Nat} (h : k ≤ bud) : ∃ j, bud = k + j := ⟨bud - k, (Nat.add_sub_cancel' h).symm⟩
/-- a fold that may fail -/
noncomputable def foldF {β : Type} (step : α → β → Option α) : α → List β → Option α
  | a, [] => some a
  | a, b :: r => match step a b with
    | some a' => foldF step a' r
    | none => none
theorem F_item {t : Expr} {body : List Stmt} {k K : Nat} {it it' : It} {ρ ρ1 ρ2 : Rho} {σ σ2 : Store} {v : V} {fl : Fl} {R : Option (Fl × Rho × Store)} (hK : K = k + 1) (ht : tgtOk t it = true) (hn : nextI it σ = some (some (v, it'))) (ha : assignT t v ρ = some ρ1)
    (hb : (ev T d).s cx body ρ1 σ = some (fl, ρ2, σ2)) (hf : fl = .next ∨ fl = .cont) (h : forL (ev T d) cx t body k it' ρ2 σ2 = R) : forL (ev T d) cx t body K it ρ σ = R := by
  subst hK
  unfold forL
  rw [ht, hn]; dsimp only; rw [ha]; dsimp only; rw [hb]
  rcases hf with rfl | rfl <;> exact h
theorem F_ret {t : Expr} {body : List Stmt} {k K : Nat} {it it' : It} {ρ ρ1 ρ2 : Rho} {σ σ2 : Store} {v w : V} (hK : K = k + 1) (ht : tgtOk t it = true) (hn : nextI it σ = some (some (v, it'))) (ha : assignT t v ρ = some ρ1)
    (hb : (ev T d).s cx body ρ1 σ = some (.ret w, ρ2, σ2)) : forL (ev T d) cx t body K it ρ σ = some (.ret w, ρ2, σ2) := by
  subst hK
  unfold forL
  rw [ht, hn]; dsimp only; rw [ha]; dsimp only; rw [hb]
theorem F_end {t : Expr} {body : List Stmt} {k K : Nat} {it : It} {ρ : Rho} {σ : Store} (hK : K = k + 1) (ht : tgtOk t it = true) (hn : nextI it σ = some none) : forL (ev T d) cx t body K it ρ σ = some (.next, ρ, σ) := by
  subst hK
  unfold forL
  rw [ht, hn]
/-- a for over a dict that stays -/
theorem for_dict {x : Str} {p : Pos} {body : List Stmt} {n ep : Nat} {es : List (List Int × V)} {step : α → (List Int × V) → Option α} (Rel : α → Rho → Store → Prop)
    (hk : ∀ a ρ σ, Rel a ρ σ → σ[n]? = some (.dict es ep))
    (hs : ∀ a e a' ρ σ, e ∈ es → step a e = some a' → Rel a ρ σ → ∃ ρ1 fl ρ2 σ2, rset ρ x (.tup (e.1.map V.int)) = some ρ1 ∧ (ev T d).s cx body ρ1 σ = some (fl, ρ2, σ2) ∧ (fl = .next ∨ fl = .cont) ∧ Rel a' ρ2 σ2) :
    ∀ (rest : List (List Int × V)) (i j : Nat) (a r : α) (ρ : Rho) (σ : Store), es.drop i = rest → foldF step a rest = some r → Rel a ρ σ →
      ∃ ρ' σ', forL (ev T d) cx (.Name x p) body (rest.length + 1 + j) (.dict n i es.length ep) ρ σ = some (.next, ρ', σ') ∧ Rel r ρ' σ'
  | [], i, j, a, r, ρ, σ, hd, h, hr => by
    cases h
    refine ⟨ρ, σ, F_end (k := j) (by simp [Nat.add_comm]) rfl ?_, hr⟩
    have hi : es[i]? = none := List.getElem?_eq_none (List.drop_eq_nil_iff.mp hd)
    delta nextI; dsimp only; simp only [hk _ _ _ hr, and_self, if_true, hi]
  | e :: rest, i, j, a, r, ρ, σ, hd, h, hr => by
    unfold foldF at h
    split at h
    · rename_i a' ha
      have hi : es[i]? = some e := by have := congrArg (fun l => l[0]?) hd; simpa using this
      have hm : e ∈ es := List.mem_of_getElem? hi
      obtain ⟨ρ1, fl, ρ2, σ2, g1, g2, g3, g4⟩ := hs _ _ _ ρ σ hm ha hr
      have hd' : es.drop (i + 1) = rest := by rw [← List.drop_drop, hd]; rfl
      obtain ⟨ρ', σ', q1, q2⟩ := for_dict Rel hk hs rest (i + 1) j a' r ρ2 σ2 hd' h g4
      refine ⟨ρ', σ', F_item (k := rest.length + 1 + j) (v := .tup (e.1.map V.int)) (by simp [Nat.add_comm, Nat.add_left_comm]) rfl ?_ g1 g2 g3 q1, q2⟩
      delta nextI; dsimp only; simp only [hk _ _ _ hr, and_self, if_true, hi]
    · first | exact no_some h | cases h
/-- one clause, item by item -/
theorem C_item {inner : Rho → Store → Option (Rho × Store)} {t : Expr} {ifs : List Expr} {k K : Nat} {it it' : It} {ρ ρ1 ρ2 : Rho} {σ σ1 σ2 : Store} {v : V} {R : Option (Rho × Store)} (hK : K = k + 1) (ht : tgtOk t it = true) (hn : nextI it σ = some (some (v, it'))) (ha : assignT t v ρ = some ρ1)
    (hi : testsL (ev T d) cx ifs ρ1 σ = some (true, σ1)) (hb : inner ρ1 σ1 = some (ρ2, σ2)) (h : compL (ev T d) cx inner t ifs k it' ρ2 σ2 = R) : compL (ev T d) cx inner t ifs K it ρ σ = R := by
  subst hK
  unfold compL
  rw [ht, hn]; dsimp only; rw [ha]; dsimp only; rw [hi]; dsimp only; rw [hb]; exact h
theorem C_skip {inner : Rho → Store → Option (Rho × Store)} {t : Expr} {ifs : List Expr} {k K : Nat} {it it' : It} {ρ ρ1 : Rho} {σ σ1 : Store} {v : V} {R : Option (Rho × Store)} (hK : K = k + 1) (ht : tgtOk t it = true) (hn : nextI it σ = some (some (v, it'))) (ha : assignT t v ρ = some ρ1)
    (hi : testsL (ev T d) cx ifs ρ1 σ = some (false, σ1)) (h : compL (ev T d) cx inner t ifs k it' ρ1 σ1 = R) : compL (ev T d) cx inner t ifs K it ρ σ = R := by
  subst hK
  unfold compL
  rw [ht, hn]; dsimp only; rw [ha]; dsimp only; rw [hi]; exact h
theorem C_end {inner : Rho → Store → Option (Rho × Store)} {t : Expr} {ifs : List Expr} {k K : Nat} {it : It} {ρ : Rho} {σ : Store} (hK : K = k + 1) (ht : tgtOk t it = true) (hn : nextI it σ = some none) : compL (ev T d) cx inner t ifs K it ρ σ = some (ρ, σ) := by
  subst hK
  unfold compL
  rw [ht, hn]
theorem comp_dict {inner : Rho → Store → Option (Rho × Store)} {x : Str} {p : Pos} {ifs : List Expr} {n ep : Nat} {es : List (List Int × V)} {step : α → (List Int × V) → Option α} (Rel : α → Rho → Store → Prop)
    (hk : ∀ a ρ σ, Rel a ρ σ → σ[n]? = some (.dict es ep))
    (hs : ∀ a e a' ρ σ, e ∈ es → step a e = some a' → Rel a ρ σ → ∃ ρ1 c σ1, rset ρ x (.tup (e.1.map V.int)) = some ρ1 ∧ testsL (ev T d) cx ifs ρ1 σ = some (c, σ1) ∧ (if c = true then ∃ ρ2 σ2, inner ρ1 σ1 = some (ρ2, σ2) ∧ Rel a' ρ2 σ2 else Rel a' ρ1 σ1)) :
    ∀ (rest : List (List Int × V)) (i j : Nat) (a r : α) (ρ : Rho) (σ : Store), es.drop i = rest → foldF step a rest = some r → Rel a ρ σ →
      ∃ ρ' σ', compL (ev T d) cx inner (.Name x p) ifs (rest.length + 1 + j) (.dict n i es.length ep) ρ σ = some (ρ', σ') ∧ Rel r ρ' σ'
  | [], i, j, a, r, ρ, σ, hd, h, hr => by
    cases h
    refine ⟨ρ, σ, C_end (k := j) (by simp [Nat.add_comm]) rfl ?_, hr⟩
    have hi : es[i]? = none := List.getElem?_eq_none (List.drop_eq_nil_iff.mp hd)
    delta nextI; dsimp only; simp only [hk _ _ _ hr, and_self, if_true, hi]
  | e :: rest, i, j, a, r, ρ, σ, hd, h, hr => by
    unfold foldF at h
    split at h
    · rename_i a' ha
      have hi : es[i]? = some e := by have := congrArg (fun l => l[0]?) hd; simpa using this
      have hm : e ∈ es := List.mem_of_getElem? hi
      obtain ⟨ρ1, c, σ1, g1, g2, g3⟩ := hs _ _ _ ρ σ hm ha hr
      have hd' : es.drop (i + 1) = rest := by rw [← List.drop_drop, hd]; rfl
      have hnx : nextI (.dict n i es.length ep) σ = some (some (.tup (e.1.map V.int), .dict n (i + 1) es.length ep)) := by
        delta nextI; dsimp only; simp only [hk _ _ _ hr, and_self, if_true, hi]
      cases c with
      | true =>
        obtain ⟨ρ2, σ2, g4, g5⟩ := g3
        obtain ⟨ρ', σ', q1, q2⟩ := comp_dict Rel hk hs rest (i + 1) j a' r ρ2 σ2 hd' h g5
        exact ⟨ρ', σ', C_item (k := rest.length + 1 + j) (by simp [Nat.add_comm, Nat.add_left_comm]) rfl hnx g1 g2 g4 q1, q2⟩
      | false =>
        obtain ⟨ρ', σ', q1, q2⟩ := comp_dict Rel hk hs rest (i + 1) j a' r ρ1 σ1 hd' h g3
        exact ⟨ρ', σ', C_skip (k := rest.length + 1 + j) (by simp [Nat.add_comm, Nat.add_left_comm]) rfl hnx g1 g2 q1, q2⟩
    · first | exact no_some h | cases h
/-- a comprehension of one clause into a row -/
theorem E_lcomp {elt : Expr} {g : Comprehension} {scope : Scope} {p : Pos} {ρ ρ' : Rho} {σ σ1 σ2 : Store} {it : It} {fr : List (Str × V)} (hc : compOk cx scope = true ∧ g.is_async = 0) (hi : iterE T (ev T d) cx g.iter ρ σ = some (it, σ1)) (hf : freeVals ρ scope.names = some fr)
    (h : compL (ev T d) ⟨compNm scope, fr⟩ (compGs T (ev T d) ⟨compNm scope, fr⟩ (emitList (ev T d) ⟨compNm scope, fr⟩ σ1.length elt) []) g.target g.ifs bud it (ownNames scope.names) (σ1 ++ [.list []]) = some (ρ', σ2)) :
    (ev T (d + 1)).e cx (.ListComp elt [g] scope p) ρ σ = some (.obj σ1.length, σ2) := by
  rw [ev_e]
  delta stepE; dsimp only; delta comp; dsimp only
  rw [if_pos hc, hi]; dsimp only; rw [hf]; dsimp only; rw [h]
theorem E_lcomp2 {elt : Expr} {g g2 : Comprehension} {scope : Scope} {p : Pos} {ρ ρ' : Rho} {σ σ1 σ2 : Store} {it : It} {fr : List (Str × V)} (hc : compOk cx scope = true ∧ g.is_async = 0) (hi : iterE T (ev T d) cx g.iter ρ σ = some (it, σ1)) (hf : freeVals ρ scope.names = some fr)
    (h : compL (ev T d) ⟨compNm scope, fr⟩ (compGs T (ev T d) ⟨compNm scope, fr⟩ (emitList (ev T d) ⟨compNm scope, fr⟩ σ1.length elt) [g2]) g.target g.ifs bud it (ownNames scope.names) (σ1 ++ [.list []]) = some (ρ', σ2)) :
    (ev T (d + 1)).e cx (.ListComp elt [g, g2] scope p) ρ σ = some (.obj σ1.length, σ2) := by
  rw [ev_e]
  delta stepE; dsimp only; delta comp; dsimp only
  rw [if_pos hc, hi]; dsimp only; rw [hf]; dsimp only; rw [h]
theorem E_dcomp {e1 e2 : Expr} {g : Comprehension} {scope : Scope} {p : Pos} {ρ ρ' : Rho} {σ σ1 σ2 : Store} {it : It} {fr : List (Str × V)} (hc : compOk cx scope = true ∧ g.is_async = 0) (hi : iterE T (ev T d) cx g.iter ρ σ = some (it, σ1)) (hf : freeVals ρ scope.names = some fr)
    (h : compL (ev T d) ⟨compNm scope, fr⟩ (compGs T (ev T d) ⟨compNm scope, fr⟩ (emitDict (ev T d) ⟨compNm scope, fr⟩ σ1.length e1 e2) []) g.target g.ifs bud it (ownNames scope.names) (σ1 ++ [.dict [] 0]) = some (ρ', σ2)) :
    (ev T (d + 1)).e cx (.DictComp e1 e2 [g] scope p) ρ σ = some (.obj σ1.length, σ2) := by
  rw [ev_e]
  delta stepE; dsimp only; delta comp; dsimp only
  rw [if_pos hc, hi]; dsimp only; rw [hf]; dsimp only; rw [h]
theorem G_nil {emit : Rho → Store → Option Store} {ρ : Rho} {σ σ1 : Store} (h : emit ρ σ = some σ1) : compGs T (ev T d) cx emit [] ρ σ = some (ρ, σ1) := by
  unfold compGs; rw [h]
theorem M_list {acc : Nat} {elt : Expr} {ρ : Rho} {σ σ1 : Store} {v : V} {vs : List V} (h1 : (ev T d).e cx elt ρ σ = some (v, σ1)) (h2 : σ1[acc]? = some (.list vs)) (hl : vs.length < lim) : emitList (ev T d) cx acc elt ρ σ = some (σ1.set acc (.list (vs ++ [v]))) := by
  unfold emitList; rw [h1]; dsimp only; rw [h2]; dsimp only; rw [if_pos hl]
theorem M_dict {acc : Nat} {e1 e2 : Expr} {ρ : Rho} {σ σ1 σ2 : Store} {v : V} {ks : List V} {kk : List Int} {es : List (List Int × V)} {ep : Nat} (h1 : (ev T d).e cx e1 ρ σ = some (.tup ks, σ1)) (h2 : (ev T d).e cx e2 ρ σ1 = some (v, σ2)) (h3 : σ2[acc]? = some (.dict es ep)) (h4 : intsOf ks = some kk) (hl : es.length < lim) :
    emitDict (ev T d) cx acc e1 e2 ρ σ = some (σ2.set acc (setD es ep kk v)) := by
  unfold emitDict; rw [h1]; dsimp only; rw [h2]; dsimp only; rw [h3, h4]; dsimp only; rw [if_pos hl]
theorem I_nil {ρ : Rho} {σ : Store} : testsL (ev T d) cx [] ρ σ = some (true, σ) := rfl
theorem I_one {e : Expr} {ρ : Rho} {σ σ1 : Store} {c : Bool} (h : (ev T d).t cx e ρ σ = some (c, σ1)) : testsL (ev T d) cx [e] ρ σ = some (c, σ1) := by
  unfold testsL; rw [h]; cases c <;> rfl
/-- iterators -/
theorem R_enum {f : Str} {p q : Pos} {a : Expr} {ρ : Rho} {σ σ1 : Store} {vs : List V} (hf : f = Str.ofString "enumerate") (hg : cx.nm.lookup f = some .globalImplicit) (h : evalL (ev T d) cx [a] ρ σ = some ([.tup vs], σ1)) : iterE T (ev T d) cx (.Call (.Name f p) [a] [] q) ρ σ = some (.enumT vs 0, σ1) := by
  delta iterE; dsimp only
  rw [if_pos hg, if_pos hf, h]
theorem R_enumL {f : Str} {p q : Pos} {a : Expr} {ρ : Rho} {σ σ1 : Store} {n : Nat} {vs : List V} (hf : f = Str.ofString "enumerate") (hg : cx.nm.lookup f = some .globalImplicit) (h : evalL (ev T d) cx [a] ρ σ = some ([.obj n], σ1)) (h2 : σ1[n]? = some (.list vs)) : iterE T (ev T d) cx (.Call (.Name f p) [a] [] q) ρ σ = some (.enumL n 0, σ1) := by
  delta iterE; dsimp only
  rw [if_pos hg, if_pos hf, h]; dsimp only; rw [h2]
theorem R_range {f : Str} {p q : Pos} {a : Expr} {ρ : Rho} {σ σ1 : Store} {n : Int} (hf : f = Str.ofString "range") (hg : cx.nm.lookup f = some .globalImplicit) (h : evalL (ev T d) cx [a] ρ σ = some ([.int n], σ1)) (hn : 0 ≤ n ∧ n < 10000) : iterE T (ev T d) cx (.Call (.Name f p) [a] [] q) ρ σ = some (.range 0 n.toNat, σ1) := by
  have hne : Str.ofString "range" ≠ Str.ofString "enumerate" := by decide +kernel
  delta iterE; dsimp only
  rw [if_pos hg, if_neg (by rw [hf]; exact hne), if_pos hf, h]; dsimp only; rw [if_pos hn]
theorem R_name {x : Str} {p : Pos} {ρ : Rho} {σ σ1 : Store} {v : V} {it : It} (h : (ev T d).e cx (.Name x p) ρ σ = some (v, σ1)) (h2 : iterV v σ1 = some it) : iterE T (ev T d) cx (.Name x p) ρ σ = some (it, σ1) := by
  delta iterE; dsimp only
  rw [h]; dsimp only; rw [h2]
theorem R_tup {es : List Expr} {k : Nat} {p : Pos} {ρ : Rho} {σ σ1 : Store} {v : V} {it : It} (h : (ev T d).e cx (.Tuple es k p) ρ σ = some (v, σ1)) (h2 : iterV v σ1 = some it) : iterE T (ev T d) cx (.Tuple es k p) ρ σ = some (it, σ1) := by
  delta iterE; dsimp only
  rw [h]; dsimp only; rw [h2]
theorem R_sub {e1 e2 : Expr} {p : Pos} {ρ : Rho} {σ σ1 : Store} {v : V} {it : It} (h : (ev T d).e cx (.Subscript e1 e2 p) ρ σ = some (v, σ1)) (h2 : iterV v σ1 = some it) : iterE T (ev T d) cx (.Subscript e1 e2 p) ρ σ = some (it, σ1) := by
  delta iterE; dsimp only
  rw [h]; dsimp only; rw [h2]
theorem iterV_obj {n : Nat} {σ : Store} {es : List (List Int × V)} {ep : Nat} (h : σ[n]? = some (.dict es ep)) : iterV (.obj n) σ = some (.dict n 0 es.length ep) := by
  delta iterV; dsimp only; rw [h]
end
end Mine
namespace Mine
open PySem PyProof.Rows
theorem find_order_key : P0.find (Str.ofString "order_key") = some (recAt 3) := by kernel_rfl
theorem ok_order_key : okDef (recAt 3) = true := by kernel_rfl
theorem find_powers_product : P0.find (Str.ofString "powers_product") = some (recAt 4) := by kernel_rfl
theorem ok_powers_product : okDef (recAt 4) = true := by kernel_rfl
theorem find_powers_divide : P0.find (Str.ofString "powers_divide") = some (recAt 5) := by kernel_rfl
theorem ok_powers_divide : okDef (recAt 5) = true := by kernel_rfl
theorem find_powers_quotient : P0.find (Str.ofString "powers_quotient") = some (recAt 6) := by kernel_rfl
theorem ok_powers_quotient : okDef (recAt 6) = true := by kernel_rfl
theorem find_gcd : P0.find (Str.ofString "gcd") = some (recAt 8) := by kernel_rfl
theorem ok_gcd : okDef (recAt 8) = true := by kernel_rfl
theorem find_bits_of : P0.find (Str.ofString "bits_of") = some (recAt 9) := by kernel_rfl
theorem ok_bits_of : okDef (recAt 9) = true := by kernel_rfl
theorem find_rat : P0.find (Str.ofString "rat") = some (recAt 13) := by kernel_rfl
theorem ok_rat : okDef (recAt 13) = true := by kernel_rfl
theorem find_radd : P0.find (Str.ofString "radd") = some (recAt 14) := by kernel_rfl
theorem ok_radd : okDef (recAt 14) = true := by kernel_rfl
theorem find_rmul : P0.find (Str.ofString "rmul") = some (recAt 15) := by kernel_rfl
theorem ok_rmul : okDef (recAt 15) = true := by kernel_rfl
theorem find_rdiv : P0.find (Str.ofString "rdiv") = some (recAt 16) := by kernel_rfl
theorem ok_rdiv : okDef (recAt 16) = true := by kernel_rfl
theorem find_rneg : P0.find (Str.ofString "rneg") = some (recAt 17) := by kernel_rfl
theorem ok_rneg : okDef (recAt 17) = true := by kernel_rfl
theorem find_rinv : P0.find (Str.ofString "rinv") = some (recAt 18) := by kernel_rfl
theorem ok_rinv : okDef (recAt 18) = true := by kernel_rfl
theorem find_rpower : P0.find (Str.ofString "rpower") = some (recAt 19) := by kernel_rfl
theorem ok_rpower : okDef (recAt 19) = true := by kernel_rfl
theorem find_is_vast : P0.find (Str.ofString "is_vast") = some (recAt 20) := by kernel_rfl
theorem ok_is_vast : okDef (recAt 20) = true := by kernel_rfl
theorem find_mvadd : P0.find (Str.ofString "mvadd") = some (recAt 22) := by kernel_rfl
theorem ok_mvadd : okDef (recAt 22) = true := by kernel_rfl
theorem find_add_term : P0.find (Str.ofString "add_term") = some (recAt 23) := by kernel_rfl
theorem ok_add_term : okDef (recAt 23) = true := by kernel_rfl
theorem find_mvneg : P0.find (Str.ofString "mvneg") = some (recAt 24) := by kernel_rfl
theorem ok_mvneg : okDef (recAt 24) = true := by kernel_rfl
theorem find_mvsub : P0.find (Str.ofString "mvsub") = some (recAt 25) := by kernel_rfl
theorem ok_mvsub : okDef (recAt 25) = true := by kernel_rfl
theorem find_mvshift : P0.find (Str.ofString "mvshift") = some (recAt 26) := by kernel_rfl
theorem ok_mvshift : okDef (recAt 26) = true := by kernel_rfl
theorem find_mvmul : P0.find (Str.ofString "mvmul") = some (recAt 27) := by kernel_rfl
theorem ok_mvmul : okDef (recAt 27) = true := by kernel_rfl
theorem find_mvat : P0.find (Str.ofString "mvat") = some (recAt 28) := by kernel_rfl
theorem ok_mvat : okDef (recAt 28) = true := by kernel_rfl
theorem find_mvlead : P0.find (Str.ofString "mvlead") = some (recAt 29) := by kernel_rfl
theorem ok_mvlead : okDef (recAt 29) = true := by kernel_rfl
theorem find_first_divisor : P0.find (Str.ofString "first_divisor") = some (recAt 33) := by kernel_rfl
theorem ok_first_divisor : okDef (recAt 33) = true := by kernel_rfl
theorem find_mvdivide : P0.find (Str.ofString "mvdivide") = some (recAt 34) := by kernel_rfl
theorem ok_mvdivide : okDef (recAt 34) = true := by kernel_rfl
theorem find_mvexact : P0.find (Str.ofString "mvexact") = some (recAt 35) := by kernel_rfl
theorem ok_mvexact : okDef (recAt 35) = true := by kernel_rfl
theorem find_law_draw : P0.find (Str.ofString "_law_draw") = some (recAt 37) := by kernel_rfl
theorem ok_law_draw : okDef (recAt 37) = true := by kernel_rfl
theorem find_law_gap : P0.find (Str.ofString "_law_gap") = some (recAt 38) := by kernel_rfl
theorem ok_law_gap : okDef (recAt 38) = true := by kernel_rfl
theorem find_law_pair : P0.find (Str.ofString "_law_pair") = some (recAt 39) := by kernel_rfl
theorem ok_law_pair : okDef (recAt 39) = true := by kernel_rfl
theorem find_law_next : P0.find (Str.ofString "_law_next") = some (recAt 40) := by kernel_rfl
theorem ok_law_next : okDef (recAt 40) = true := by kernel_rfl
theorem find_law_ratio : P0.find (Str.ofString "_law_ratio") = some (recAt 41) := by kernel_rfl
theorem ok_law_ratio : okDef (recAt 41) = true := by kernel_rfl
theorem find_law_is_fair : P0.find (Str.ofString "_law_is_fair") = some (recAt 42) := by kernel_rfl
theorem ok_law_is_fair : okDef (recAt 42) = true := by kernel_rfl
theorem find_law : P0.find (Str.ofString "law") = some (recAt 43) := by kernel_rfl
theorem ok_law : okDef (recAt 43) = true := by kernel_rfl
section
variable {T : Tb} {d : Nat} {cx : Cx} {ρ ρ1 ρ2 : Rho} {σ σ1 σ2 σ3 σ4 : Store} {Q : Fl → Rho → Store → Prop} {x : Str} {p q q' : Pos} {k : Nat} {e e1 e2 e3 : Expr} {r body orelse : List Stmt} {v a b : V} {V' : V} {vs ws : List V}
noncomputable def Run (T : Tb) (d : Nat) (cx : Cx) (ss : List Stmt) (ρ : Rho) (σ : Store) (Q : Fl → Rho → Store → Prop) : Prop := ∃ fl ρ' σ', stmts T (ev T d) cx ss ρ σ = some (fl, ρ', σ') ∧ Q fl ρ' σ'
theorem Run.of {ss ss' : List Stmt} (h : ∀ R, stmts T (ev T d) cx ss' ρ1 σ1 = R → stmts T (ev T d) cx ss ρ σ = R) (k : Run T d cx ss' ρ1 σ1 Q) : Run T d cx ss ρ σ Q := by
  obtain ⟨fl, ρ', σ', h1, h2⟩ := k
  exact ⟨fl, ρ', σ', h _ h1, h2⟩
theorem R_asg (he : (ev T d).e cx e ρ σ = some (v, σ1)) (hs : rset ρ x v = some ρ1) (hc : isComp e = false ∨ compBound cx x p e = true) (h : Run T d cx r ρ1 σ1 Q) : Run T d cx (.Assign [.Name x p] e q :: r) ρ σ Q := .of (fun _ => S_asg he hs hc) h
theorem R_tupS {ts : List Expr} (he : (ev T d).e cx e ρ σ = some (.tup vs, σ1)) (hs : setNames ts vs ρ = some ρ1) (hc : tupleOk e = true ∧ simpleTargets ts = true ∧ (namesOfT ts).Nodup) (h : Run T d cx r ρ1 σ1 Q) : Run T d cx (.Assign [.Tuple ts k p] e q :: r) ρ σ Q := .of (fun _ => S_tup he hs hc) h
theorem R_set {i : V} (he : (ev T d).e cx e ρ σ = some (v, σ1)) (ho : (ev T d).e cx e1 ρ σ1 = some (a, σ2)) (hi : (ev T d).e cx e2 ρ σ2 = some (i, σ3)) (hs : setitem a i v σ3 = some σ4) (hc : isComp e = false) (h : Run T d cx r ρ σ4 Q) : Run T d cx (.Assign [.Subscript e1 e2 p] e q :: r) ρ σ Q := .of (fun _ => S_set he ho hi hs hc) h
theorem R_aug {i j : Int} (hn : name T cx x ρ = some (.int i)) (he : (ev T d).e cx e ρ σ = some (.int j, σ1)) (hs : rset ρ x (.int (i + j)) = some ρ1) (h : Run T d cx r ρ1 σ1 Q) : Run T d cx (.AugAssign (.Name x p) .Add e q :: r) ρ σ Q := .of (fun _ => S_aug hn he hs) h
theorem R_expr {f : Expr} {args : List Expr} {ks : List Keyword} (he : (ev T d).e cx (.Call f args ks p) ρ σ = some (v, σ1)) (h : Run T d cx r ρ σ1 Q) : Run T d cx (.Expr (.Call f args ks p) q :: r) ρ σ Q := .of (fun _ => S_expr he) h
theorem R_ifT (ht : (ev T d).t cx e ρ σ = some (true, σ1)) (hb : (ev T d).s cx body ρ σ1 = some (.next, ρ2, σ2)) (h : Run T d cx r ρ2 σ2 Q) : Run T d cx (.If e body orelse q :: r) ρ σ Q := .of (fun _ => S_ifT ht hb) h
theorem R_ifF (ht : (ev T d).t cx e ρ σ = some (false, σ1)) (hb : (ev T d).s cx orelse ρ σ1 = some (.next, ρ2, σ2)) (h : Run T d cx r ρ2 σ2 Q) : Run T d cx (.If e body orelse q :: r) ρ σ Q := .of (fun _ => S_ifF ht hb) h
theorem R_ifTr (ht : (ev T d).t cx e ρ σ = some (true, σ1)) (hb : (ev T d).s cx body ρ σ1 = some (.ret v, ρ2, σ2)) (h : Q (.ret v) ρ2 σ2) : Run T d cx (.If e body orelse q :: r) ρ σ Q := ⟨_, _, _, S_ifTr ht hb, h⟩
theorem R_ret (he : (ev T d).e cx e ρ σ = some (v, σ1)) (h : Q (.ret v) ρ σ1) : Run T d cx (.Return (some e) q :: r) ρ σ Q := ⟨_, _, _, S_ret he, h⟩
theorem R_nil (h : Q .next ρ σ) : Run T d cx [] ρ σ Q := ⟨_, _, _, S_nil, h⟩
theorem R_cont (h : Q .cont ρ σ) : Run T d cx (.Continue q :: r) ρ σ Q := ⟨_, _, _, S_cont, h⟩
/-- the block of a loop -/
noncomputable def RunB (T : Tb) (d : Nat) (cx : Cx) (ss : List Stmt) (ρ : Rho) (σ : Store) (Q : Fl → Rho → Store → Prop) : Prop := ∃ fl ρ' σ', (ev T d).s cx ss ρ σ = some (fl, ρ', σ') ∧ Q fl ρ' σ'
theorem B_in {ss : List Stmt} (h : Run T d cx ss ρ σ Q) : RunB T (d + 1) cx ss ρ σ Q := h
/-- a test with what comes after it -/
noncomputable def Tst (T : Tb) (d : Nat) (cx : Cx) (e : Expr) (ρ : Rho) (σ : Store) (b : Bool) (K : Store → Prop) : Prop := ∃ σ1, (ev T d).t cx e ρ σ = some (b, σ1) ∧ K σ1
theorem Tst.mk {c : Bool} {K : Store → Prop} (h : (ev T d).t cx e ρ σ = some (c, σ1)) (k : K σ1) : Tst T d cx e ρ σ c K := ⟨σ1, h, k⟩
theorem R_while {α : Type} {step : α → Option (Option α)} (Rel : α → Rho → Store → Prop) {k : Nat} (hk : k ≤ bud) {a0 r0 : α} (hi : iterF step k a0 = some r0) (hr : Rel a0 ρ σ)
    (hT : ∀ a a' ρ σ, step a = some (some a') → Rel a ρ σ → Tst T d cx e ρ σ true fun σ1 => RunB T d cx body ρ σ1 fun fl ρ2 σ2 => (fl = .next ∨ fl = .cont) ∧ Rel a' ρ2 σ2)
    (hF : ∀ a ρ σ, step a = some none → Rel a ρ σ → Tst T d cx e ρ σ false fun σ1 => Rel a ρ σ1)
    (h : ∀ ρ' σ', Rel r0 ρ' σ' → Run T d cx r ρ' σ' Q) : Run T d cx (.While e body [] q :: r) ρ σ Q := by
  obtain ⟨j, hj⟩ := bud_split hk
  obtain ⟨ρ', σ', h1, h2⟩ := while_rel Rel (fun a a' ρ σ hs hr => by
    obtain ⟨σ1, h1, fl, ρ2, σ2, h2, h3, h4⟩ := hT a a' ρ σ hs hr
    exact ⟨σ1, ρ2, σ2, fl, h1, h2, h3, h4⟩) hF k j a0 r0 ρ σ hi hr
  rw [← hj] at h1
  exact .of (fun _ => S_while h1) (h ρ' σ' h2)
theorem R_forDict {α : Type} {pp : Pos} {n ep : Nat} {es : List (List Int × V)} {step : α → (List Int × V) → Option α} (Rel : α → Rho → Store → Prop) (hi : iterE T (ev T d) cx e ρ σ = some (.dict n 0 es.length ep, σ1)) (hlen : es.length < 100000) {a0 r0 : α} (hf : foldF step a0 es = some r0) (hr : Rel a0 ρ σ1)
    (hk : ∀ a ρ σ, Rel a ρ σ → σ[n]? = some (.dict es ep))
    (hs : ∀ a e a' ρ σ, e ∈ es → step a e = some a' → Rel a ρ σ → ∃ ρ1, rset ρ x (.tup (e.1.map V.int)) = some ρ1 ∧ RunB T d cx body ρ1 σ fun fl ρ2 σ2 => (fl = .next ∨ fl = .cont) ∧ Rel a' ρ2 σ2)
    (h : ∀ ρ' σ', Rel r0 ρ' σ' → Run T d cx r ρ' σ' Q) : Run T d cx (.For (.Name x pp) e body [] q :: r) ρ σ Q := by
  obtain ⟨j, hj⟩ := bud_split (k := es.length + 1) (by unfold bud; exact ar158 hlen)
  obtain ⟨ρ', σ', h1, h2⟩ := for_dict Rel hk (fun a e a' ρ σ he hs' hr => by
    obtain ⟨ρ1, h1, fl, ρ2, σ2, h2, h3, h4⟩ := hs a e a' ρ σ he hs' hr
    exact ⟨ρ1, fl, ρ2, σ2, h1, h2, h3, h4⟩) es 0 j a0 r0 ρ σ1 rfl hf hr
  rw [← hj] at h1
  exact .of (fun _ => S_for hi h1) (h ρ' σ' h2)
theorem R_for {it : It} {t : Expr} (hi : iterE T (ev T d) cx e ρ σ = some (it, σ1)) (h1 : forL (ev T d) cx t body bud it ρ σ1 = some (.next, ρ2, σ2)) (h : Run T d cx r ρ2 σ2 Q) : Run T d cx (.For t e body [] q :: r) ρ σ Q := .of (fun _ => S_for hi h1) h
/-- a call, by the run of its text -/
theorem call_run {n : Nat} {f : Str} {dr : DefRec} (Post : V → Store → Prop) (hf : P0.find f = some dr) (hok : okDef dr = true) (hb : bindP (dr.params.args.map (·.arg)) vs (ownNames dr.scope.names) = some ρ)
    (h : Run ⟨fun g => (P0.find g).isSome, P0.gl, callF P0 n⟩ 39 ⟨dr.scope.names, []⟩ dr.body ρ σ (fun fl _ σ' => ∃ v, (fl = .ret v ∨ (fl = .next ∧ v = .none)) ∧ Post v σ')) : ∃ v σ', callF P0 (n + 1) f vs σ = some (v, σ') ∧ Post v σ' := by
  obtain ⟨fl, ρ', σ', h1, v, h2, h3⟩ := h
  exact ⟨v, σ', call_in hf hok hb h1 h2, h3⟩
/-- the block of an if, of a loop -/
theorem s_of_run {fl : Fl} (h : Run T d cx r ρ σ (fun fl' ρ' σ' => fl' = fl ∧ ρ' = ρ1 ∧ σ' = σ1)) : (ev T (d + 1)).s cx r ρ σ = some (fl, ρ1, σ1) := by
  obtain ⟨_, _, _, h1, rfl, rfl, rfl⟩ := h
  exact h1
theorem s_of_run' (h : Run T d cx r ρ σ Q) : ∃ fl ρ' σ', (ev T (d + 1)).s cx r ρ σ = some (fl, ρ', σ') ∧ Q fl ρ' σ' := h
end
noncomputable abbrev Q2 := Int × Int
noncomputable abbrev qV (a : Q2) : V := .tup [.int a.1, .int a.2]
noncomputable abbrev sm (i : Int) : Prop := i.natAbs < big
noncomputable def absI (i : Int) : Int := if i < 0 then -i else i
noncomputable def gcdF (k : Nat) (a : Q2) : Option Int := match iterF (fun (s : Q2) => if s.2 = 0 then some none else some (some (s.2, s.1.fmod s.2))) k a with
  | some s => some s.1
  | none => none
theorem gcd_spec {n : Nat} {a b g : Int} {σ : Store} (h : gcdF 100 (absI a, absI b) = some g) : callF P0 (n + 1) (Str.ofString "gcd") [.int a, .int b] σ = some (.int g, σ) := by
  unfold gcdF at h
  split at h
  · rename_i s hs
    cases h
    have : ∃ v σ', callF P0 (n + 1) (Str.ofString "gcd") [.int a, .int b] σ = some (v, σ') ∧ (v = .int s.1 ∧ σ' = σ) := by
      apply call_run _ find_gcd ok_gcd
      · exact rfl
      · apply R_tupS
        · repeat' (first
    | exact E_int | exact E_str | exact E_none | exact E_bool
    | exact E_name rfl rfl
    | apply E_bin | apply E_neg | (apply E_sub; case hs => (intro _ _ _ _ h; cases h))
    | apply E_tup | apply E_list | exact L_nil | (apply L_cons; case hs => (intro _ _ h; cases h))
    | (apply E_bi; case hb => exact rfl; case hf => kernel_rfl; case hg => exact ⟨rfl, rfl, of_decide_eq_true rfl⟩)
    | (apply E_call; case hf => kernel_rfl; case hg => exact ⟨rfl, rfl, of_decide_eq_true rfl⟩)
    | exact O_add | exact O_sub | apply O_mul | apply O_div | apply O_mod
    | (apply T_cmp; case hm => exact rfl) | apply T_not | apply T_bop
    | fail
    | assumption
    | fail
    | exact of_decide_eq_true rfl
    | exact rfl)
        · exact rfl
        · exact ⟨rfl, rfl, by decide +kernel⟩
        · apply R_while (fun (s : Q2) ρ' σ' => ρ' = [(Str.ofString "a", some (.int s.1)), (Str.ofString "b", some (.int s.2))] ∧ σ' = σ) (by decide : 100 ≤ bud) hs
          · exact ⟨rfl, rfl⟩
          · rintro ⟨a, b⟩ a' ρ σ h ⟨rfl, rfl⟩
            by_cases hb : b = 0
            · rw [if_pos hb] at h; cases h
            · rw [if_neg hb] at h; cases h
              have hb' : (b != 0) = true := by simpa using hb
              apply Tst.mk
              · repeat' (first
    | exact E_int | exact E_str | exact E_none | exact E_bool
    | exact E_name rfl rfl
    | apply E_bin | apply E_neg | (apply E_sub; case hs => (intro _ _ _ _ h; cases h))
    | apply E_tup | apply E_list | exact L_nil | (apply L_cons; case hs => (intro _ _ h; cases h))
    | (apply E_bi; case hb => exact rfl; case hf => kernel_rfl; case hg => exact ⟨rfl, rfl, of_decide_eq_true rfl⟩)
    | (apply E_call; case hf => kernel_rfl; case hg => exact ⟨rfl, rfl, of_decide_eq_true rfl⟩)
    | exact O_add | exact O_sub | apply O_mul | apply O_div | apply O_mod
    | (apply T_cmp; case hm => exact rfl) | apply T_not | apply T_bop
    | fail
    | assumption
    | fail
    | exact of_decide_eq_true rfl
    | exact rfl)
              · apply B_in
                apply R_tupS
                · repeat' (first
    | exact E_int | exact E_str | exact E_none | exact E_bool
    | exact E_name rfl rfl
    | apply E_bin | apply E_neg | (apply E_sub; case hs => (intro _ _ _ _ h; cases h))
    | apply E_tup | apply E_list | exact L_nil | (apply L_cons; case hs => (intro _ _ h; cases h))
    | (apply E_bi; case hb => exact rfl; case hf => kernel_rfl; case hg => exact ⟨rfl, rfl, of_decide_eq_true rfl⟩)
    | (apply E_call; case hf => kernel_rfl; case hg => exact ⟨rfl, rfl, of_decide_eq_true rfl⟩)
    | exact O_add | exact O_sub | apply O_mul | apply O_div | apply O_mod
    | (apply T_cmp; case hm => exact rfl) | apply T_not | apply T_bop
    | fail
    | assumption
    | fail
    | exact of_decide_eq_true rfl
    | exact rfl)
                · exact rfl
                · exact ⟨rfl, rfl, by decide +kernel⟩
                · apply R_nil
                  exact ⟨.inl rfl, rfl, rfl⟩
          · rintro ⟨a, b⟩ ρ σ h ⟨rfl, rfl⟩
            by_cases hb : b = 0
            · subst hb
              apply Tst.mk
              · repeat' (first
    | exact E_int | exact E_str | exact E_none | exact E_bool
    | exact E_name rfl rfl
    | apply E_bin | apply E_neg | (apply E_sub; case hs => (intro _ _ _ _ h; cases h))
    | apply E_tup | apply E_list | exact L_nil | (apply L_cons; case hs => (intro _ _ h; cases h))
    | (apply E_bi; case hb => exact rfl; case hf => kernel_rfl; case hg => exact ⟨rfl, rfl, of_decide_eq_true rfl⟩)
    | (apply E_call; case hf => kernel_rfl; case hg => exact ⟨rfl, rfl, of_decide_eq_true rfl⟩)
    | exact O_add | exact O_sub | apply O_mul | apply O_div | apply O_mod
    | (apply T_cmp; case hm => exact rfl) | apply T_not | apply T_bop
    | fail
    | assumption
    | fail
    | exact of_decide_eq_true rfl
    | exact rfl)
              · exact ⟨rfl, rfl⟩
            · rw [if_neg hb] at h; cases h
          · rintro _ _ ⟨rfl, rfl⟩
            apply R_ret
            · repeat' (first
    | exact E_int | exact E_str | exact E_none | exact E_bool
    | exact E_name rfl rfl
    | apply E_bin | apply E_neg | (apply E_sub; case hs => (intro _ _ _ _ h; cases h))
    | apply E_tup | apply E_list | exact L_nil | (apply L_cons; case hs => (intro _ _ h; cases h))
    | (apply E_bi; case hb => exact rfl; case hf => kernel_rfl; case hg => exact ⟨rfl, rfl, of_decide_eq_true rfl⟩)
    | (apply E_call; case hf => kernel_rfl; case hg => exact ⟨rfl, rfl, of_decide_eq_true rfl⟩)
    | exact O_add | exact O_sub | apply O_mul | apply O_div | apply O_mod
    | (apply T_cmp; case hm => exact rfl) | apply T_not | apply T_bop
    | fail
    | assumption
    | fail
    | exact of_decide_eq_true rfl
    | exact rfl)
            · exact ⟨_, .inl rfl, rfl, rfl⟩
    obtain ⟨v, σ', h1, rfl, rfl⟩ := this
    exact h1
  · first | exact no_some h | cases h
end Mine
namespace Mine
open PySem PyProof.Rows
section
variable {T : Tb} {d : Nat} {cx : Cx} {ρ ρ1 ρ2 : Rho} {σ σ1 σ2 σ3 σ4 : Store} {p q : Pos} {k : Nat} {e e1 e2 e3 : Expr} {v a b : V} {vs ws : List V}
theorem E_cmpc {op : CmpOp} {c c' : Bool} (hm : behindInMarks op e2 = false) (h1 : (ev T d).e cx e1 ρ σ = some (a, σ1)) (h2 : (ev T d).e cx e2 ρ σ1 = some (b, σ2)) (h : cmp op a b σ2 = some c) (hc : c = c') : (ev T (d + 1)).e cx (.Compare e1 [op] [e2] p) ρ σ = some (.bool c', σ2) := hc ▸ E_cmp hm h1 h2 h
theorem E_andF {es : List Expr} (h1 : (ev T d).e cx e1 ρ σ = some (.bool false, σ1)) : (ev T (d + 1)).e cx (.BoolOp .And (e1 :: e2 :: es) p) ρ σ = some (.bool false, σ1) := by
  rw [ev_e]
  show (match (generalizing := false) (ev T d).e cx e1 ρ σ with
    | some (.bool b, σ1) => match (generalizing := false) BoolOp.And, b with
      | .And, false => some (V.bool false, σ1)
      | .Or, true => some (.bool true, σ1)
      | _, _ => boolE (ev T d) cx .And (e2 :: es) ρ σ1
    | _ => .none) = _
  rw [h1]
theorem set_last {c c' : Cell} : (σ ++ [c]).set σ.length c' = σ ++ [c'] := by simp
theorem get_last {c : Cell} : (σ ++ [c])[σ.length]? = some c := by simp
theorem M_listL {elt : Expr} (h1 : (ev T d).e cx elt ρ (σ ++ [.list vs]) = some (v, σ ++ [.list vs])) (hl : vs.length < lim) : emitList (ev T d) cx σ.length elt ρ (σ ++ [.list vs]) = some (σ ++ [.list (vs ++ [v])]) := by
  rw [M_list h1 get_last hl, set_last]
theorem tuple_last (hl : vs.length < lim) : biCall .tuple [.obj σ.length] (σ ++ [.list vs]) = some (.tup vs, σ ++ [.list vs]) := by
  delta biCall; dsimp only
  rw [get_last]; dsimp only; rw [if_pos hl]
end
noncomputable def ratL (t b : Int) : Option Q2 := if 0 < b ∧ sm t ∧ sm b then (match gcdF 100 (absI t, absI b) with
  | some g => if g ≠ 0 ∧ sm g then some (t.fdiv g, b.fdiv g) else none
  | none => none) else none
theorem rat_spec {n : Nat} {t b : Int} {q : Q2} {σ : Store} (h : ratL t b = some q) : callF P0 (n + 2) (Str.ofString "rat") [.int t, .int b] σ = some (qV q, σ) := by
  unfold ratL at h
  split at h
  · rename_i hc
    obtain ⟨hp, st, sb⟩ := hc
    split at h
    · rename_i g hg
      split at h
      · rename_i hg2
        obtain ⟨g0, sg⟩ := hg2
        cases h
        have st : t.natAbs < big := st
        have sb : b.natAbs < big := sb
        have sg : g.natAbs < big := sg
        have hb : (b == 0) = false := beq_eq_false_iff_ne.mpr (by exact Int.ne_of_gt hp)
        have hp' : decide (0 < b) = true := decide_eq_true hp
        have hgc := gcd_spec (n := n) (σ := σ) hg
        apply call_in find_rat ok_rat
        · exact rfl
        · apply S_ifF
          · repeat' (first
    | exact E_int | exact E_str | exact E_none | exact E_bool
    | exact E_name rfl rfl
    | apply E_bin | apply E_neg | (apply E_sub; case hs => (intro _ _ _ _ h; cases h))
    | apply E_tup | apply E_list | exact L_nil | (apply L_cons; case hs => (intro _ _ h; cases h))
    | (apply E_bi; (case hb => exact rfl); (case hf => kernel_rfl); (case hg => exact ⟨rfl, rfl, of_decide_eq_true rfl⟩))
    | (apply E_call; (case hf => kernel_rfl); (case hg => exact ⟨rfl, rfl, of_decide_eq_true rfl⟩))
    | exact O_add | exact O_sub | apply O_mul | apply O_div | apply O_mod
    | (apply T_cmp; case hm => exact rfl) | apply T_not | apply T_bop
    | fail
    | assumption
    | fail
    | exact of_decide_eq_true rfl
    | exact rfl)
          · exact X_s S_nil
          apply S_asg
          · apply E_ifT
            · repeat' (first
    | exact E_int | exact E_str | exact E_none | exact E_bool
    | exact E_name rfl rfl
    | apply E_bin | apply E_neg | (apply E_sub; case hs => (intro _ _ _ _ h; cases h))
    | apply E_tup | apply E_list | exact L_nil | (apply L_cons; case hs => (intro _ _ h; cases h))
    | (apply E_bi; (case hb => exact rfl); (case hf => kernel_rfl); (case hg => exact ⟨rfl, rfl, of_decide_eq_true rfl⟩))
    | (apply E_call; (case hf => kernel_rfl); (case hg => exact ⟨rfl, rfl, of_decide_eq_true rfl⟩))
    | exact O_add | exact O_sub | apply O_mul | apply O_div | apply O_mod
    | (apply T_cmp; case hm => exact rfl) | apply T_not | apply T_bop
    | fail
    | assumption
    | fail
    | exact of_decide_eq_true rfl
    | exact rfl)
            · repeat' (first
    | exact E_int | exact E_str | exact E_none | exact E_bool
    | exact E_name rfl rfl
    | apply E_bin | apply E_neg | (apply E_sub; case hs => (intro _ _ _ _ h; cases h))
    | apply E_tup | apply E_list | exact L_nil | (apply L_cons; case hs => (intro _ _ h; cases h))
    | (apply E_bi; (case hb => exact rfl); (case hf => kernel_rfl); (case hg => exact ⟨rfl, rfl, of_decide_eq_true rfl⟩))
    | (apply E_call; (case hf => kernel_rfl); (case hg => exact ⟨rfl, rfl, of_decide_eq_true rfl⟩))
    | exact O_add | exact O_sub | apply O_mul | apply O_div | apply O_mod
    | (apply T_cmp; case hm => exact rfl) | apply T_not | apply T_bop
    | exact hgc
    | assumption
    | fail
    | exact of_decide_eq_true rfl
    | exact rfl)
          · exact rfl
          · exact .inl rfl
          apply S_ret
          repeat' (first
    | exact E_int | exact E_str | exact E_none | exact E_bool
    | exact E_name rfl rfl
    | apply E_bin | apply E_neg | (apply E_sub; case hs => (intro _ _ _ _ h; cases h))
    | apply E_tup | apply E_list | exact L_nil | (apply L_cons; case hs => (intro _ _ h; cases h))
    | (apply E_bi; (case hb => exact rfl); (case hf => kernel_rfl); (case hg => exact ⟨rfl, rfl, of_decide_eq_true rfl⟩))
    | (apply E_call; (case hf => kernel_rfl); (case hg => exact ⟨rfl, rfl, of_decide_eq_true rfl⟩))
    | exact O_add | exact O_sub | apply O_mul | apply O_div | apply O_mod
    | (apply T_cmp; case hm => exact rfl) | apply T_not | apply T_bop
    | fail
    | assumption
    | fail
    | exact of_decide_eq_true rfl
    | exact rfl)
        · exact .inl rfl
      · first | exact no_some h | cases h
    · first | exact no_some h | cases h
  · first | exact no_some h | cases h
noncomputable abbrev sm4 (a b : Q2) : Prop := sm a.1 ∧ sm a.2 ∧ sm b.1 ∧ sm b.2
noncomputable def raddL (a b : Q2) : Option Q2 := if sm4 a b then ratL (a.1 * b.2 + b.1 * a.2) (a.2 * b.2) else none
noncomputable def rmulL (a b : Q2) : Option Q2 := if sm4 a b then ratL (a.1 * b.1) (a.2 * b.2) else none
noncomputable def rdivL (a b : Q2) : Option Q2 := if sm4 a b then ratL (a.1 * b.2) (a.2 * b.1) else none
noncomputable def rinvL (a : Q2) : Option Q2 := ratL a.2 a.1
theorem radd_spec {n : Nat} {a b q : Q2} {σ : Store} (h : raddL a b = some q) : callF P0 (n + 3) (Str.ofString "radd") [qV a, qV b] σ = some (qV q, σ) := by
  unfold raddL at h
  split at h
  · rename_i hc
    obtain ⟨h1, h2, h3, h4⟩ := hc
    have h1 : a.1.natAbs < big := h1
    have h2 : a.2.natAbs < big := h2
    have h3 : b.1.natAbs < big := h3
    have h4 : b.2.natAbs < big := h4
    have hr := rat_spec (n := n) (σ := σ) h
    apply call_in find_radd ok_radd
    · exact rfl
    · apply S_ret
      repeat' (first
    | exact E_int | exact E_str | exact E_none | exact E_bool
    | exact E_name rfl rfl
    | apply E_bin | apply E_neg | (apply E_sub; case hs => (intro _ _ _ _ h; cases h))
    | apply E_tup | apply E_list | exact L_nil | (apply L_cons; case hs => (intro _ _ h; cases h))
    | (apply E_bi; (case hb => exact rfl); (case hf => kernel_rfl); (case hg => exact ⟨rfl, rfl, of_decide_eq_true rfl⟩))
    | (apply E_call; (case hf => kernel_rfl); (case hg => exact ⟨rfl, rfl, of_decide_eq_true rfl⟩))
    | exact O_add | exact O_sub | apply O_mul | apply O_div | apply O_mod
    | (apply T_cmp; case hm => exact rfl) | apply T_not | apply T_bop
    | exact hr
    | assumption
    | fail
    | exact of_decide_eq_true rfl
    | exact rfl)
    · exact .inl rfl
  · first | exact no_some h | cases h
theorem rmul_spec {n : Nat} {a b q : Q2} {σ : Store} (h : rmulL a b = some q) : callF P0 (n + 3) (Str.ofString "rmul") [qV a, qV b] σ = some (qV q, σ) := by
  unfold rmulL at h
  split at h
  · rename_i hc
    obtain ⟨h1, h2, h3, h4⟩ := hc
    have h1 : a.1.natAbs < big := h1
    have h2 : a.2.natAbs < big := h2
    have h3 : b.1.natAbs < big := h3
    have h4 : b.2.natAbs < big := h4
    have hr := rat_spec (n := n) (σ := σ) h
    apply call_in find_rmul ok_rmul
    · exact rfl
    · apply S_ret
      repeat' (first
    | exact E_int | exact E_str | exact E_none | exact E_bool
    | exact E_name rfl rfl
    | apply E_bin | apply E_neg | (apply E_sub; case hs => (intro _ _ _ _ h; cases h))
    | apply E_tup | apply E_list | exact L_nil | (apply L_cons; case hs => (intro _ _ h; cases h))
    | (apply E_bi; (case hb => exact rfl); (case hf => kernel_rfl); (case hg => exact ⟨rfl, rfl, of_decide_eq_true rfl⟩))
    | (apply E_call; (case hf => kernel_rfl); (case hg => exact ⟨rfl, rfl, of_decide_eq_true rfl⟩))
    | exact O_add | exact O_sub | apply O_mul | apply O_div | apply O_mod
    | (apply T_cmp; case hm => exact rfl) | apply T_not | apply T_bop
    | exact hr
    | assumption
    | fail
    | exact of_decide_eq_true rfl
    | exact rfl)
    · exact .inl rfl
  · first | exact no_some h | cases h
theorem rdiv_spec {n : Nat} {a b q : Q2} {σ : Store} (h : rdivL a b = some q) : callF P0 (n + 3) (Str.ofString "rdiv") [qV a, qV b] σ = some (qV q, σ) := by
  unfold rdivL at h
  split at h
  · rename_i hc
    obtain ⟨h1, h2, h3, h4⟩ := hc
    have h1 : a.1.natAbs < big := h1
    have h2 : a.2.natAbs < big := h2
    have h3 : b.1.natAbs < big := h3
    have h4 : b.2.natAbs < big := h4
    have hr := rat_spec (n := n) (σ := σ) h
    apply call_in find_rdiv ok_rdiv
    · exact rfl
    · apply S_ret
      repeat' (first
    | exact E_int | exact E_str | exact E_none | exact E_bool
    | exact E_name rfl rfl
    | apply E_bin | apply E_neg | (apply E_sub; case hs => (intro _ _ _ _ h; cases h))
    | apply E_tup | apply E_list | exact L_nil | (apply L_cons; case hs => (intro _ _ h; cases h))
    | (apply E_bi; (case hb => exact rfl); (case hf => kernel_rfl); (case hg => exact ⟨rfl, rfl, of_decide_eq_true rfl⟩))
    | (apply E_call; (case hf => kernel_rfl); (case hg => exact ⟨rfl, rfl, of_decide_eq_true rfl⟩))
    | exact O_add | exact O_sub | apply O_mul | apply O_div | apply O_mod
    | (apply T_cmp; case hm => exact rfl) | apply T_not | apply T_bop
    | exact hr
    | assumption
    | fail
    | exact of_decide_eq_true rfl
    | exact rfl)
    · exact .inl rfl
  · first | exact no_some h | cases h
theorem rneg_spec {n : Nat} {a : Q2} {σ : Store} : callF P0 (n + 1) (Str.ofString "rneg") [qV a] σ = some (qV (0 - a.1, a.2), σ) := by
  apply call_in find_rneg ok_rneg
  · exact rfl
  · apply S_ret
    repeat' (first
    | exact E_int | exact E_str | exact E_none | exact E_bool
    | exact E_name rfl rfl
    | apply E_bin | apply E_neg | (apply E_sub; case hs => (intro _ _ _ _ h; cases h))
    | apply E_tup | apply E_list | exact L_nil | (apply L_cons; case hs => (intro _ _ h; cases h))
    | (apply E_bi; (case hb => exact rfl); (case hf => kernel_rfl); (case hg => exact ⟨rfl, rfl, of_decide_eq_true rfl⟩))
    | (apply E_call; (case hf => kernel_rfl); (case hg => exact ⟨rfl, rfl, of_decide_eq_true rfl⟩))
    | exact O_add | exact O_sub | apply O_mul | apply O_div | apply O_mod
    | (apply T_cmp; case hm => exact rfl) | apply T_not | apply T_bop
    | fail
    | assumption
    | fail
    | exact of_decide_eq_true rfl
    | exact rfl)
  · exact .inl rfl
theorem rinv_spec {n : Nat} {a q : Q2} {σ : Store} (h : rinvL a = some q) : callF P0 (n + 3) (Str.ofString "rinv") [qV a] σ = some (qV q, σ) := by
  have hr := rat_spec (n := n) (σ := σ) h
  apply call_in find_rinv ok_rinv
  · exact rfl
  · apply S_ret
    repeat' (first
    | exact E_int | exact E_str | exact E_none | exact E_bool
    | exact E_name rfl rfl
    | apply E_bin | apply E_neg | (apply E_sub; case hs => (intro _ _ _ _ h; cases h))
    | apply E_tup | apply E_list | exact L_nil | (apply L_cons; case hs => (intro _ _ h; cases h))
    | (apply E_bi; (case hb => exact rfl); (case hf => kernel_rfl); (case hg => exact ⟨rfl, rfl, of_decide_eq_true rfl⟩))
    | (apply E_call; (case hf => kernel_rfl); (case hg => exact ⟨rfl, rfl, of_decide_eq_true rfl⟩))
    | exact O_add | exact O_sub | apply O_mul | apply O_div | apply O_mod
    | (apply T_cmp; case hm => exact rfl) | apply T_not | apply T_bop
    | exact hr
    | assumption
    | fail
    | exact of_decide_eq_true rfl
    | exact rfl)
  · exact .inl rfl
theorem law_gap_spec {n : Nat} {a b : Q2} {σ : Store} : callF P0 (n + 1) (Str.ofString "_law_gap") [qV a, qV b] σ = some (qV (a.1 - b.1, a.2 - b.2), σ) := by
  apply call_in find_law_gap ok_law_gap
  · exact rfl
  · apply S_ret
    repeat' (first
    | exact E_int | exact E_str | exact E_none | exact E_bool
    | exact E_name rfl rfl
    | apply E_bin | apply E_neg | (apply E_sub; case hs => (intro _ _ _ _ h; cases h))
    | apply E_tup | apply E_list | exact L_nil | (apply L_cons; case hs => (intro _ _ h; cases h))
    | (apply E_bi; (case hb => exact rfl); (case hf => kernel_rfl); (case hg => exact ⟨rfl, rfl, of_decide_eq_true rfl⟩))
    | (apply E_call; (case hf => kernel_rfl); (case hg => exact ⟨rfl, rfl, of_decide_eq_true rfl⟩))
    | exact O_add | exact O_sub | apply O_mul | apply O_div | apply O_mod
    | (apply T_cmp; case hm => exact rfl) | apply T_not | apply T_bop
    | fail
    | assumption
    | fail
    | exact of_decide_eq_true rfl
    | exact rfl)
  · exact .inl rfl
theorem order_spec {n : Nat} {v : V} {σ : Store} : callF P0 (n + 1) (Str.ofString "order_key") [.str (Str.ofString "lex"), v] σ = some (v, σ) := by
  apply call_in find_order_key ok_order_key
  · exact rfl
  · apply S_ifTr
    · repeat' (first
    | exact E_int | exact E_str | exact E_none | exact E_bool
    | exact E_name rfl rfl
    | apply E_bin | apply E_neg | (apply E_sub; case hs => (intro _ _ _ _ h; cases h))
    | apply E_tup | apply E_list | exact L_nil | (apply L_cons; case hs => (intro _ _ h; cases h))
    | (apply E_bi; (case hb => exact rfl); (case hf => kernel_rfl); (case hg => exact ⟨rfl, rfl, of_decide_eq_true rfl⟩))
    | (apply E_call; (case hf => kernel_rfl); (case hg => exact ⟨rfl, rfl, of_decide_eq_true rfl⟩))
    | exact O_add | exact O_sub | apply O_mul | apply O_div | apply O_mod
    | (apply T_cmp; case hm => exact rfl) | apply T_not | apply T_bop
    | fail
    | assumption
    | fail
    | exact of_decide_eq_true rfl
    | exact rfl)
    · apply X_s
      apply S_ret
      repeat' (first
    | exact E_int | exact E_str | exact E_none | exact E_bool
    | exact E_name rfl rfl
    | apply E_bin | apply E_neg | (apply E_sub; case hs => (intro _ _ _ _ h; cases h))
    | apply E_tup | apply E_list | exact L_nil | (apply L_cons; case hs => (intro _ _ h; cases h))
    | (apply E_bi; (case hb => exact rfl); (case hf => kernel_rfl); (case hg => exact ⟨rfl, rfl, of_decide_eq_true rfl⟩))
    | (apply E_call; (case hf => kernel_rfl); (case hg => exact ⟨rfl, rfl, of_decide_eq_true rfl⟩))
    | exact O_add | exact O_sub | apply O_mul | apply O_div | apply O_mod
    | (apply T_cmp; case hm => exact rfl) | apply T_not | apply T_bop
    | fail
    | assumption
    | fail
    | exact of_decide_eq_true rfl
    | exact rfl)
  · exact .inl rfl
theorem bits2 {n : Nat} {σ : Store} : callF P0 (n + 1) (Str.ofString "bits_of") [.int 2] σ = some (.int 2, σ) := by kernel_rfl
theorem bits3 {n : Nat} {σ : Store} : callF P0 (n + 1) (Str.ofString "bits_of") [.int 3] σ = some (.int 2, σ) := by kernel_rfl
theorem bits4 {n : Nat} {σ : Store} : callF P0 (n + 1) (Str.ofString "bits_of") [.int 4] σ = some (.int 3, σ) := by kernel_rfl
noncomputable def mx (a b : Int) : Int := if b > a then b else a
theorem vast_spec {n : Nat} {a : Q2} {σ : Store} (h : mx (absI a.1) a.2 < 2 ^ 64) : callF P0 (n + 1) (Str.ofString "is_vast") [qV a] σ = some (.bool false, σ) := by
  have hd : decide ((2 : Int) ^ (64 : Int).toNat ≤ mx (absI a.1) a.2) = false := decide_eq_false (by
    have : (2 : Int) ^ (64 : Int).toNat = 2 ^ 64 := rfl
    rw [this]; exact Int.not_le.mpr h)
  apply call_in find_is_vast ok_is_vast
  · exact rfl
  · apply S_asg
    · repeat' (first
    | exact E_int | exact E_str | exact E_none | exact E_bool
    | exact E_name rfl rfl
    | apply E_bin | apply E_neg | (apply E_sub; case hs => (intro _ _ _ _ h; cases h))
    | apply E_tup | apply E_list | exact L_nil | (apply L_cons; case hs => (intro _ _ h; cases h))
    | (apply E_bi; (case hb => exact rfl); (case hf => kernel_rfl); (case hg => exact ⟨rfl, rfl, of_decide_eq_true rfl⟩))
    | (apply E_call; (case hf => kernel_rfl); (case hg => exact ⟨rfl, rfl, of_decide_eq_true rfl⟩))
    | exact O_add | exact O_sub | apply O_mul | apply O_div | apply O_mod
    | (apply T_cmp; case hm => exact rfl) | apply T_not | apply T_bop
    | fail
    | assumption
    | fail
    | exact of_decide_eq_true rfl
    | exact rfl)
    · exact rfl
    · exact .inl rfl
    apply S_ret
    apply E_andF
    apply E_cmpc
    · exact rfl
    · repeat' (first
    | exact E_int | exact E_str | exact E_none | exact E_bool
    | exact E_name rfl rfl
    | apply E_bin | apply E_neg | (apply E_sub; case hs => (intro _ _ _ _ h; cases h))
    | apply E_tup | apply E_list | exact L_nil | (apply L_cons; case hs => (intro _ _ h; cases h))
    | (apply E_bi; (case hb => exact rfl); (case hf => kernel_rfl); (case hg => exact ⟨rfl, rfl, of_decide_eq_true rfl⟩))
    | (apply E_call; (case hf => kernel_rfl); (case hg => exact ⟨rfl, rfl, of_decide_eq_true rfl⟩))
    | exact O_add | exact O_sub | apply O_mul | apply O_div | apply O_mod
    | (apply T_cmp; case hm => exact rfl) | apply T_not | apply T_bop
    | fail
    | assumption
    | fail
    | exact of_decide_eq_true rfl
    | exact rfl)
    · apply E_bin
      · exact E_int
      · exact E_int
      · exact O_pow ⟨by decide, by decide, by decide⟩
    · exact rfl
    · exact hd
  · exact .inl rfl
noncomputable def pprod (a b : Q2) : Q2 := (a.1 + b.1, a.2 + b.2)
theorem pprod_spec {n : Nat} {a b : Q2} {σ : Store} : callF P0 (n + 1) (Str.ofString "powers_product") [qV a, qV b] σ = some (qV (pprod a b), σ ++ [.list [.int (a.1 + b.1), .int (a.2 + b.2)]]) := by
  apply call_in find_powers_product ok_powers_product
  · exact rfl
  · apply S_ret
    apply E_bi
    case hb => exact rfl
    case hf => kernel_rfl
    case hg => exact ⟨rfl, rfl, of_decide_eq_true rfl⟩
    · apply L_cons
      · intro _ _ h; cases h
      · apply E_lcomp
        · exact ⟨by decide +kernel, rfl⟩
        · apply R_enum
          · exact rfl
          · exact rfl
          · repeat' (first
    | exact E_int | exact E_str | exact E_none | exact E_bool
    | exact E_name rfl rfl
    | apply E_bin | apply E_neg | (apply E_sub; case hs => (intro _ _ _ _ h; cases h))
    | apply E_tup | apply E_list | exact L_nil | (apply L_cons; case hs => (intro _ _ h; cases h))
    | (apply E_bi; (case hb => exact rfl); (case hf => kernel_rfl); (case hg => exact ⟨rfl, rfl, of_decide_eq_true rfl⟩))
    | (apply E_call; (case hf => kernel_rfl); (case hg => exact ⟨rfl, rfl, of_decide_eq_true rfl⟩))
    | exact O_add | exact O_sub | apply O_mul | apply O_div | apply O_mod
    | (apply T_cmp; case hm => exact rfl) | apply T_not | apply T_bop
    | fail
    | assumption
    | fail
    | exact of_decide_eq_true rfl
    | exact rfl)
        · exact rfl
        · apply C_item
          · exact rfl
          · exact rfl
          · exact rfl
          · exact rfl
          · exact I_nil
          · apply G_nil
            apply M_listL
            · repeat' (first
    | exact E_int | exact E_str | exact E_none | exact E_bool
    | exact E_name rfl rfl
    | apply E_bin | apply E_neg | (apply E_sub; case hs => (intro _ _ _ _ h; cases h))
    | apply E_tup | apply E_list | exact L_nil | (apply L_cons; case hs => (intro _ _ h; cases h))
    | (apply E_bi; (case hb => exact rfl); (case hf => kernel_rfl); (case hg => exact ⟨rfl, rfl, of_decide_eq_true rfl⟩))
    | (apply E_call; (case hf => kernel_rfl); (case hg => exact ⟨rfl, rfl, of_decide_eq_true rfl⟩))
    | exact O_add | exact O_sub | apply O_mul | apply O_div | apply O_mod
    | (apply T_cmp; case hm => exact rfl) | apply T_not | apply T_bop
    | fail
    | assumption
    | fail
    | exact of_decide_eq_true rfl
    | exact rfl)
            · exact of_decide_eq_true rfl
          apply C_item
          · exact rfl
          · exact rfl
          · exact rfl
          · exact rfl
          · exact I_nil
          · apply G_nil
            apply M_listL
            · repeat' (first
    | exact E_int | exact E_str | exact E_none | exact E_bool
    | exact E_name rfl rfl
    | apply E_bin | apply E_neg | (apply E_sub; case hs => (intro _ _ _ _ h; cases h))
    | apply E_tup | apply E_list | exact L_nil | (apply L_cons; case hs => (intro _ _ h; cases h))
    | (apply E_bi; (case hb => exact rfl); (case hf => kernel_rfl); (case hg => exact ⟨rfl, rfl, of_decide_eq_true rfl⟩))
    | (apply E_call; (case hf => kernel_rfl); (case hg => exact ⟨rfl, rfl, of_decide_eq_true rfl⟩))
    | exact O_add | exact O_sub | apply O_mul | apply O_div | apply O_mod
    | (apply T_cmp; case hm => exact rfl) | apply T_not | apply T_bop
    | fail
    | assumption
    | fail
    | exact of_decide_eq_true rfl
    | exact rfl)
            · exact of_decide_eq_true rfl
          apply C_end
          · exact rfl
          · exact rfl
          · exact rfl
      · exact L_nil
    · exact tuple_last (of_decide_eq_true rfl)
  · exact .inl rfl
noncomputable def pquot (a b : Q2) : Q2 := (a.1 - b.1, a.2 - b.2)
theorem pquot_spec {n : Nat} {a b : Q2} {σ : Store} : callF P0 (n + 1) (Str.ofString "powers_quotient") [qV a, qV b] σ = some (qV (pquot a b), σ ++ [.list [.int (a.1 - b.1), .int (a.2 - b.2)]]) := by
  apply call_in find_powers_quotient ok_powers_quotient
  · exact rfl
  · apply S_ret
    apply E_bi
    case hb => exact rfl
    case hf => kernel_rfl
    case hg => exact ⟨rfl, rfl, of_decide_eq_true rfl⟩
    · apply L_cons
      · intro _ _ h; cases h
      · apply E_lcomp
        · exact ⟨by decide +kernel, rfl⟩
        · apply R_enum
          · exact rfl
          · exact rfl
          · repeat' (first
    | exact E_int | exact E_str | exact E_none | exact E_bool
    | exact E_name rfl rfl
    | apply E_bin | apply E_neg | (apply E_sub; case hs => (intro _ _ _ _ h; cases h))
    | apply E_tup | apply E_list | exact L_nil | (apply L_cons; case hs => (intro _ _ h; cases h))
    | (apply E_bi; (case hb => exact rfl); (case hf => kernel_rfl); (case hg => exact ⟨rfl, rfl, of_decide_eq_true rfl⟩))
    | (apply E_call; (case hf => kernel_rfl); (case hg => exact ⟨rfl, rfl, of_decide_eq_true rfl⟩))
    | exact O_add | exact O_sub | apply O_mul | apply O_div | apply O_mod
    | (apply T_cmp; case hm => exact rfl) | apply T_not | apply T_bop
    | fail
    | assumption
    | fail
    | exact of_decide_eq_true rfl
    | exact rfl)
        · exact rfl
        · apply C_item
          · exact rfl
          · exact rfl
          · exact rfl
          · exact rfl
          · exact I_nil
          · apply G_nil
            apply M_listL
            · repeat' (first
    | exact E_int | exact E_str | exact E_none | exact E_bool
    | exact E_name rfl rfl
    | apply E_bin | apply E_neg | (apply E_sub; case hs => (intro _ _ _ _ h; cases h))
    | apply E_tup | apply E_list | exact L_nil | (apply L_cons; case hs => (intro _ _ h; cases h))
    | (apply E_bi; (case hb => exact rfl); (case hf => kernel_rfl); (case hg => exact ⟨rfl, rfl, of_decide_eq_true rfl⟩))
    | (apply E_call; (case hf => kernel_rfl); (case hg => exact ⟨rfl, rfl, of_decide_eq_true rfl⟩))
    | exact O_add | exact O_sub | apply O_mul | apply O_div | apply O_mod
    | (apply T_cmp; case hm => exact rfl) | apply T_not | apply T_bop
    | fail
    | assumption
    | fail
    | exact of_decide_eq_true rfl
    | exact rfl)
            · exact of_decide_eq_true rfl
          apply C_item
          · exact rfl
          · exact rfl
          · exact rfl
          · exact rfl
          · exact I_nil
          · apply G_nil
            apply M_listL
            · repeat' (first
    | exact E_int | exact E_str | exact E_none | exact E_bool
    | exact E_name rfl rfl
    | apply E_bin | apply E_neg | (apply E_sub; case hs => (intro _ _ _ _ h; cases h))
    | apply E_tup | apply E_list | exact L_nil | (apply L_cons; case hs => (intro _ _ h; cases h))
    | (apply E_bi; (case hb => exact rfl); (case hf => kernel_rfl); (case hg => exact ⟨rfl, rfl, of_decide_eq_true rfl⟩))
    | (apply E_call; (case hf => kernel_rfl); (case hg => exact ⟨rfl, rfl, of_decide_eq_true rfl⟩))
    | exact O_add | exact O_sub | apply O_mul | apply O_div | apply O_mod
    | (apply T_cmp; case hm => exact rfl) | apply T_not | apply T_bop
    | fail
    | assumption
    | fail
    | exact of_decide_eq_true rfl
    | exact rfl)
            · exact of_decide_eq_true rfl
          apply C_end
          · exact rfl
          · exact rfl
          · exact rfl
      · exact L_nil
    · exact tuple_last (of_decide_eq_true rfl)
  · exact .inl rfl
end Mine
namespace Mine
open PySem PyProof.Rows
/-- a power with a whole exponent -/
noncomputable def rpowP (a : Q2) (m : Int) : Option Q2 := if (0 ≤ m ∧ m ≤ 10000 ∧ sm a.1 ∧ sm a.2) ∧ (mx (absI a.1) a.2 = 1 ∨ mx (absI a.1) a.2 = 2 ∨ mx (absI a.1) a.2 = 3 ∨ mx (absI a.1) a.2 = 4) then some (a.1 ^ m.toNat, a.2 ^ m.toNat) else none
noncomputable def rpowL (a : Q2) (m : Int) : Option Q2 := if m < 0 then (match rinvL a with
  | some b => rpowP b (0 - m)
  | none => none) else rpowP a m
section
variable {n : Nat} {d : Nat} {cx : Cx} {ρ ρ1 : Rho} {σ σ1 : Store} {e : Expr}
theorem bits_any {g : Int} (h : g = 2 ∨ g = 3 ∨ g = 4) : ∃ k, callF P0 (n + 1) (Str.ofString "bits_of") [.int g] σ = some (.int k, σ) ∧ 0 ≤ k ∧ k ≤ 3 := by
  rcases h with rfl | rfl | rfl
  · exact ⟨_, bits2, by decide, by decide⟩
  · exact ⟨_, bits3, by decide, by decide⟩
  · exact ⟨_, bits4, by decide, by decide⟩
end
theorem rpowP_spec {n : Nat} {a q : Q2} {m : Int} {σ : Store} (h : rpowP a m = some q) : callF P0 (n + 4) (Str.ofString "rpower") [qV a, .int m] σ = some (qV q, σ) := by
  unfold rpowP at h
  split at h
  · rename_i hc
    cases h
    obtain ⟨⟨m0, m1, s1, s2⟩, hg⟩ := hc
    have s1 : a.1.natAbs < big := s1
    have s2 : a.2.natAbs < big := s2
    have mb : (m).natAbs < big := by unfold big; exact ar161 m0 m1
    have hcase : decide (1 < m) = false ∨ (decide (1 < m) = true ∧ decide (1 < mx (absI a.1) a.2) = false) ∨ (decide (1 < m) = true ∧ decide (1 < mx (absI a.1) a.2) = true ∧ ∃ k, callF P0 (n + 3) (Str.ofString "bits_of") [.int (mx (absI a.1) a.2)] σ = some (.int k, σ) ∧ (decide (200000 < m * k) = false ∧ k.natAbs < big)) := by
      by_cases h1 : 1 < m
      · rcases hg with hg | hg
        · exact .inr (.inl ⟨decide_eq_true h1, decide_eq_false (by exact fun q => Int.ne_of_gt q hg)⟩)
        · obtain ⟨k, hb, k0, k1⟩ := bits_any (n := n + 2) (σ := σ) hg
          refine .inr (.inr ⟨decide_eq_true h1, decide_eq_true (by exact ar46 hg), k, hb, decide_eq_false ?_, by unfold big; exact ar47 k0 k1⟩)
          have h9 : m * k ≤ 10000 * 3 := Int.mul_le_mul m1 k1 k0 (by decide)
          exact ar48 h9
      · exact .inl (decide_eq_false h1)
    have hneg : decide (m < 0) = false := decide_eq_false (by exact Int.not_lt_of_ge m0)
    apply call_in find_rpower ok_rpower
    · exact rfl
    · apply S_ifF
      · repeat' (first
    | exact E_int | exact E_str | exact E_none | exact E_bool
    | exact E_name rfl rfl
    | apply E_bin | apply E_neg | (apply E_sub; case hs => (intro _ _ _ _ h; cases h))
    | apply E_tup | apply E_list | exact L_nil | (apply L_cons; case hs => (intro _ _ h; cases h))
    | (apply E_bi; (case hb => exact rfl); (case hf => kernel_rfl); (case hg => exact ⟨rfl, rfl, of_decide_eq_true rfl⟩))
    | (apply E_call; (case hf => kernel_rfl); (case hg => exact ⟨rfl, rfl, of_decide_eq_true rfl⟩))
    | exact O_add | exact O_sub | apply O_mul | apply O_div | apply O_mod
    | (apply T_cmp; case hm => exact rfl) | apply T_not | apply T_bop
    | fail
    | assumption
    | fail
    | exact of_decide_eq_true rfl
    | exact rfl)
      · exact X_s S_nil
      apply S_asg
      · repeat' (first
    | exact E_int | exact E_str | exact E_none | exact E_bool
    | exact E_name rfl rfl
    | apply E_bin | apply E_neg | (apply E_sub; case hs => (intro _ _ _ _ h; cases h))
    | apply E_tup | apply E_list | exact L_nil | (apply L_cons; case hs => (intro _ _ h; cases h))
    | (apply E_bi; (case hb => exact rfl); (case hf => kernel_rfl); (case hg => exact ⟨rfl, rfl, of_decide_eq_true rfl⟩))
    | (apply E_call; (case hf => kernel_rfl); (case hg => exact ⟨rfl, rfl, of_decide_eq_true rfl⟩))
    | exact O_add | exact O_sub | apply O_mul | apply O_div | apply O_mod
    | (apply T_cmp; case hm => exact rfl) | apply T_not | apply T_bop
    | fail
    | assumption
    | fail
    | exact of_decide_eq_true rfl
    | exact rfl)
      · exact rfl
      · exact .inl rfl
      apply S_ifF
      · apply T_bop
        rcases hcase with h1 | ⟨h1, h2⟩ | ⟨h1, h2, k, h3, h4⟩
        · apply B_andF
          repeat' (first
    | exact E_int | exact E_str | exact E_none | exact E_bool
    | exact E_name rfl rfl
    | apply E_bin | apply E_neg | (apply E_sub; case hs => (intro _ _ _ _ h; cases h))
    | apply E_tup | apply E_list | exact L_nil | (apply L_cons; case hs => (intro _ _ h; cases h))
    | (apply E_bi; (case hb => exact rfl); (case hf => kernel_rfl); (case hg => exact ⟨rfl, rfl, of_decide_eq_true rfl⟩))
    | (apply E_call; (case hf => kernel_rfl); (case hg => exact ⟨rfl, rfl, of_decide_eq_true rfl⟩))
    | exact O_add | exact O_sub | apply O_mul | apply O_div | apply O_mod
    | (apply T_cmp; case hm => exact rfl) | apply T_not | apply T_bop
    | fail
    | assumption
    | fail
    | exact of_decide_eq_true rfl
    | exact rfl)
        · apply B_andT
          · repeat' (first
    | exact E_int | exact E_str | exact E_none | exact E_bool
    | exact E_name rfl rfl
    | apply E_bin | apply E_neg | (apply E_sub; case hs => (intro _ _ _ _ h; cases h))
    | apply E_tup | apply E_list | exact L_nil | (apply L_cons; case hs => (intro _ _ h; cases h))
    | (apply E_bi; (case hb => exact rfl); (case hf => kernel_rfl); (case hg => exact ⟨rfl, rfl, of_decide_eq_true rfl⟩))
    | (apply E_call; (case hf => kernel_rfl); (case hg => exact ⟨rfl, rfl, of_decide_eq_true rfl⟩))
    | exact O_add | exact O_sub | apply O_mul | apply O_div | apply O_mod
    | (apply T_cmp; case hm => exact rfl) | apply T_not | apply T_bop
    | fail
    | assumption
    | fail
    | exact of_decide_eq_true rfl
    | exact rfl)
          · apply B_andF
            repeat' (first
    | exact E_int | exact E_str | exact E_none | exact E_bool
    | exact E_name rfl rfl
    | apply E_bin | apply E_neg | (apply E_sub; case hs => (intro _ _ _ _ h; cases h))
    | apply E_tup | apply E_list | exact L_nil | (apply L_cons; case hs => (intro _ _ h; cases h))
    | (apply E_bi; (case hb => exact rfl); (case hf => kernel_rfl); (case hg => exact ⟨rfl, rfl, of_decide_eq_true rfl⟩))
    | (apply E_call; (case hf => kernel_rfl); (case hg => exact ⟨rfl, rfl, of_decide_eq_true rfl⟩))
    | exact O_add | exact O_sub | apply O_mul | apply O_div | apply O_mod
    | (apply T_cmp; case hm => exact rfl) | apply T_not | apply T_bop
    | fail
    | assumption
    | fail
    | exact of_decide_eq_true rfl
    | exact rfl)
        · apply B_andT
          · repeat' (first
    | exact E_int | exact E_str | exact E_none | exact E_bool
    | exact E_name rfl rfl
    | apply E_bin | apply E_neg | (apply E_sub; case hs => (intro _ _ _ _ h; cases h))
    | apply E_tup | apply E_list | exact L_nil | (apply L_cons; case hs => (intro _ _ h; cases h))
    | (apply E_bi; (case hb => exact rfl); (case hf => kernel_rfl); (case hg => exact ⟨rfl, rfl, of_decide_eq_true rfl⟩))
    | (apply E_call; (case hf => kernel_rfl); (case hg => exact ⟨rfl, rfl, of_decide_eq_true rfl⟩))
    | exact O_add | exact O_sub | apply O_mul | apply O_div | apply O_mod
    | (apply T_cmp; case hm => exact rfl) | apply T_not | apply T_bop
    | fail
    | assumption
    | fail
    | exact of_decide_eq_true rfl
    | exact rfl)
          · apply B_andT
            · repeat' (first
    | exact E_int | exact E_str | exact E_none | exact E_bool
    | exact E_name rfl rfl
    | apply E_bin | apply E_neg | (apply E_sub; case hs => (intro _ _ _ _ h; cases h))
    | apply E_tup | apply E_list | exact L_nil | (apply L_cons; case hs => (intro _ _ h; cases h))
    | (apply E_bi; (case hb => exact rfl); (case hf => kernel_rfl); (case hg => exact ⟨rfl, rfl, of_decide_eq_true rfl⟩))
    | (apply E_call; (case hf => kernel_rfl); (case hg => exact ⟨rfl, rfl, of_decide_eq_true rfl⟩))
    | exact O_add | exact O_sub | apply O_mul | apply O_div | apply O_mod
    | (apply T_cmp; case hm => exact rfl) | apply T_not | apply T_bop
    | fail
    | assumption
    | fail
    | exact of_decide_eq_true rfl
    | exact rfl)
            · apply B_andF
              repeat' (first
    | exact E_int | exact E_str | exact E_none | exact E_bool
    | exact E_name rfl rfl
    | apply E_bin | apply E_neg | (apply E_sub; case hs => (intro _ _ _ _ h; cases h))
    | apply E_tup | apply E_list | exact L_nil | (apply L_cons; case hs => (intro _ _ h; cases h))
    | (apply E_bi; (case hb => exact rfl); (case hf => kernel_rfl); (case hg => exact ⟨rfl, rfl, of_decide_eq_true rfl⟩))
    | (apply E_call; (case hf => kernel_rfl); (case hg => exact ⟨rfl, rfl, of_decide_eq_true rfl⟩))
    | exact O_add | exact O_sub | apply O_mul | apply O_div | apply O_mod
    | (apply T_cmp; case hm => exact rfl) | apply T_not | apply T_bop
    | exact h3
    | assumption
    | exact h4.1 | exact h4.2
    | exact of_decide_eq_true rfl
    | exact rfl)
      · exact X_s S_nil
      apply S_ret
      repeat' (first
    | exact E_int | exact E_str | exact E_none | exact E_bool
    | exact E_name rfl rfl
    | apply E_bin | apply E_neg | (apply E_sub; case hs => (intro _ _ _ _ h; cases h))
    | apply E_tup | apply E_list | exact L_nil | (apply L_cons; case hs => (intro _ _ h; cases h))
    | (apply E_bi; (case hb => exact rfl); (case hf => kernel_rfl); (case hg => exact ⟨rfl, rfl, of_decide_eq_true rfl⟩))
    | (apply E_call; (case hf => kernel_rfl); (case hg => exact ⟨rfl, rfl, of_decide_eq_true rfl⟩))
    | exact O_add | exact O_sub | apply O_mul | apply O_div | apply O_mod
    | (apply T_cmp; case hm => exact rfl) | apply T_not | apply T_bop
    | exact O_pow ⟨m0, m1, s1⟩
    | assumption
    | exact O_pow ⟨m0, m1, s2⟩
    | exact of_decide_eq_true rfl
    | exact rfl)
    · exact .inl rfl
  · first | exact no_some h | cases h
theorem rpowL_spec {n : Nat} {a q : Q2} {m : Int} {σ : Store} (h : rpowL a m = some q) : callF P0 (n + 4) (Str.ofString "rpower") [qV a, .int m] σ = some (qV q, σ) := by
  unfold rpowL at h
  split at h
  · rename_i hm
    split at h
    · rename_i b hb
      have hi := rinv_spec (n := n) (σ := σ) hb
      unfold rpowP at h
      split at h
      · rename_i hc
        cases h
        obtain ⟨⟨m0, m1, s1, s2⟩, hg⟩ := hc
        have s1 : b.1.natAbs < big := s1
        have s2 : b.2.natAbs < big := s2
        have mb : ((0 - m)).natAbs < big := by unfold big; exact ar162 hm m1
        have hcase : decide (1 < (0 - m)) = false ∨ (decide (1 < (0 - m)) = true ∧ decide (1 < mx (absI b.1) b.2) = false) ∨ (decide (1 < (0 - m)) = true ∧ decide (1 < mx (absI b.1) b.2) = true ∧ ∃ k, callF P0 (n + 3) (Str.ofString "bits_of") [.int (mx (absI b.1) b.2)] σ = some (.int k, σ) ∧ (decide (200000 < (0 - m) * k) = false ∧ k.natAbs < big)) := by
          by_cases h1 : 1 < (0 - m)
          · rcases hg with hg | hg
            · exact .inr (.inl ⟨decide_eq_true h1, decide_eq_false (by exact fun q => Int.ne_of_gt q hg)⟩)
            · obtain ⟨k, hb, k0, k1⟩ := bits_any (n := n + 2) (σ := σ) hg
              refine .inr (.inr ⟨decide_eq_true h1, decide_eq_true (by exact ar46 hg), k, hb, decide_eq_false ?_, by unfold big; exact ar47 k0 k1⟩)
              have h9 : (0 - m) * k ≤ 10000 * 3 := Int.mul_le_mul m1 k1 k0 (by decide)
              exact ar48 h9
          · exact .inl (decide_eq_false h1)
        have hneg : decide (m < 0) = true := decide_eq_true hm
        apply call_in find_rpower ok_rpower
        · exact rfl
        · apply S_ifT
          · repeat' (first
    | exact E_int | exact E_str | exact E_none | exact E_bool
    | exact E_name rfl rfl
    | apply E_bin | apply E_neg | (apply E_sub; case hs => (intro _ _ _ _ h; cases h))
    | apply E_tup | apply E_list | exact L_nil | (apply L_cons; case hs => (intro _ _ h; cases h))
    | (apply E_bi; (case hb => exact rfl); (case hf => kernel_rfl); (case hg => exact ⟨rfl, rfl, of_decide_eq_true rfl⟩))
    | (apply E_call; (case hf => kernel_rfl); (case hg => exact ⟨rfl, rfl, of_decide_eq_true rfl⟩))
    | exact O_add | exact O_sub | apply O_mul | apply O_div | apply O_mod
    | (apply T_cmp; case hm => exact rfl) | apply T_not | apply T_bop
    | fail
    | assumption
    | fail
    | exact of_decide_eq_true rfl
    | exact rfl)
          · apply X_s
            apply S_tup
            · repeat' (first
    | exact E_int | exact E_str | exact E_none | exact E_bool
    | exact E_name rfl rfl
    | apply E_bin | apply E_neg | (apply E_sub; case hs => (intro _ _ _ _ h; cases h))
    | apply E_tup | apply E_list | exact L_nil | (apply L_cons; case hs => (intro _ _ h; cases h))
    | (apply E_bi; (case hb => exact rfl); (case hf => kernel_rfl); (case hg => exact ⟨rfl, rfl, of_decide_eq_true rfl⟩))
    | (apply E_call; (case hf => kernel_rfl); (case hg => exact ⟨rfl, rfl, of_decide_eq_true rfl⟩))
    | exact O_add | exact O_sub | apply O_mul | apply O_div | apply O_mod
    | (apply T_cmp; case hm => exact rfl) | apply T_not | apply T_bop
    | exact hi
    | assumption
    | fail
    | exact of_decide_eq_true rfl
    | exact rfl)
            · exact rfl
            · exact ⟨by decide +kernel, rfl, by decide +kernel⟩
            · exact S_nil
          apply S_asg
          · repeat' (first
    | exact E_int | exact E_str | exact E_none | exact E_bool
    | exact E_name rfl rfl
    | apply E_bin | apply E_neg | (apply E_sub; case hs => (intro _ _ _ _ h; cases h))
    | apply E_tup | apply E_list | exact L_nil | (apply L_cons; case hs => (intro _ _ h; cases h))
    | (apply E_bi; (case hb => exact rfl); (case hf => kernel_rfl); (case hg => exact ⟨rfl, rfl, of_decide_eq_true rfl⟩))
    | (apply E_call; (case hf => kernel_rfl); (case hg => exact ⟨rfl, rfl, of_decide_eq_true rfl⟩))
    | exact O_add | exact O_sub | apply O_mul | apply O_div | apply O_mod
    | (apply T_cmp; case hm => exact rfl) | apply T_not | apply T_bop
    | fail
    | assumption
    | fail
    | exact of_decide_eq_true rfl
    | exact rfl)
          · exact rfl
          · exact .inl rfl
          apply S_ifF
          · apply T_bop
            rcases hcase with h1 | ⟨h1, h2⟩ | ⟨h1, h2, k, h3, h4⟩
            · apply B_andF
              repeat' (first
    | exact E_int | exact E_str | exact E_none | exact E_bool
    | exact E_name rfl rfl
    | apply E_bin | apply E_neg | (apply E_sub; case hs => (intro _ _ _ _ h; cases h))
    | apply E_tup | apply E_list | exact L_nil | (apply L_cons; case hs => (intro _ _ h; cases h))
    | (apply E_bi; (case hb => exact rfl); (case hf => kernel_rfl); (case hg => exact ⟨rfl, rfl, of_decide_eq_true rfl⟩))
    | (apply E_call; (case hf => kernel_rfl); (case hg => exact ⟨rfl, rfl, of_decide_eq_true rfl⟩))
    | exact O_add | exact O_sub | apply O_mul | apply O_div | apply O_mod
    | (apply T_cmp; case hm => exact rfl) | apply T_not | apply T_bop
    | fail
    | assumption
    | fail
    | exact of_decide_eq_true rfl
    | exact rfl)
            · apply B_andT
              · repeat' (first
    | exact E_int | exact E_str | exact E_none | exact E_bool
    | exact E_name rfl rfl
    | apply E_bin | apply E_neg | (apply E_sub; case hs => (intro _ _ _ _ h; cases h))
    | apply E_tup | apply E_list | exact L_nil | (apply L_cons; case hs => (intro _ _ h; cases h))
    | (apply E_bi; (case hb => exact rfl); (case hf => kernel_rfl); (case hg => exact ⟨rfl, rfl, of_decide_eq_true rfl⟩))
    | (apply E_call; (case hf => kernel_rfl); (case hg => exact ⟨rfl, rfl, of_decide_eq_true rfl⟩))
    | exact O_add | exact O_sub | apply O_mul | apply O_div | apply O_mod
    | (apply T_cmp; case hm => exact rfl) | apply T_not | apply T_bop
    | fail
    | assumption
    | fail
    | exact of_decide_eq_true rfl
    | exact rfl)
              · apply B_andF
                repeat' (first
    | exact E_int | exact E_str | exact E_none | exact E_bool
    | exact E_name rfl rfl
    | apply E_bin | apply E_neg | (apply E_sub; case hs => (intro _ _ _ _ h; cases h))
    | apply E_tup | apply E_list | exact L_nil | (apply L_cons; case hs => (intro _ _ h; cases h))
    | (apply E_bi; (case hb => exact rfl); (case hf => kernel_rfl); (case hg => exact ⟨rfl, rfl, of_decide_eq_true rfl⟩))
    | (apply E_call; (case hf => kernel_rfl); (case hg => exact ⟨rfl, rfl, of_decide_eq_true rfl⟩))
    | exact O_add | exact O_sub | apply O_mul | apply O_div | apply O_mod
    | (apply T_cmp; case hm => exact rfl) | apply T_not | apply T_bop
    | fail
    | assumption
    | fail
    | exact of_decide_eq_true rfl
    | exact rfl)
            · apply B_andT
              · repeat' (first
    | exact E_int | exact E_str | exact E_none | exact E_bool
    | exact E_name rfl rfl
    | apply E_bin | apply E_neg | (apply E_sub; case hs => (intro _ _ _ _ h; cases h))
    | apply E_tup | apply E_list | exact L_nil | (apply L_cons; case hs => (intro _ _ h; cases h))
    | (apply E_bi; (case hb => exact rfl); (case hf => kernel_rfl); (case hg => exact ⟨rfl, rfl, of_decide_eq_true rfl⟩))
    | (apply E_call; (case hf => kernel_rfl); (case hg => exact ⟨rfl, rfl, of_decide_eq_true rfl⟩))
    | exact O_add | exact O_sub | apply O_mul | apply O_div | apply O_mod
    | (apply T_cmp; case hm => exact rfl) | apply T_not | apply T_bop
    | fail
    | assumption
    | fail
    | exact of_decide_eq_true rfl
    | exact rfl)
              · apply B_andT
                · repeat' (first
    | exact E_int | exact E_str | exact E_none | exact E_bool
    | exact E_name rfl rfl
    | apply E_bin | apply E_neg | (apply E_sub; case hs => (intro _ _ _ _ h; cases h))
    | apply E_tup | apply E_list | exact L_nil | (apply L_cons; case hs => (intro _ _ h; cases h))
    | (apply E_bi; (case hb => exact rfl); (case hf => kernel_rfl); (case hg => exact ⟨rfl, rfl, of_decide_eq_true rfl⟩))
    | (apply E_call; (case hf => kernel_rfl); (case hg => exact ⟨rfl, rfl, of_decide_eq_true rfl⟩))
    | exact O_add | exact O_sub | apply O_mul | apply O_div | apply O_mod
    | (apply T_cmp; case hm => exact rfl) | apply T_not | apply T_bop
    | fail
    | assumption
    | fail
    | exact of_decide_eq_true rfl
    | exact rfl)
                · apply B_andF
                  repeat' (first
    | exact E_int | exact E_str | exact E_none | exact E_bool
    | exact E_name rfl rfl
    | apply E_bin | apply E_neg | (apply E_sub; case hs => (intro _ _ _ _ h; cases h))
    | apply E_tup | apply E_list | exact L_nil | (apply L_cons; case hs => (intro _ _ h; cases h))
    | (apply E_bi; (case hb => exact rfl); (case hf => kernel_rfl); (case hg => exact ⟨rfl, rfl, of_decide_eq_true rfl⟩))
    | (apply E_call; (case hf => kernel_rfl); (case hg => exact ⟨rfl, rfl, of_decide_eq_true rfl⟩))
    | exact O_add | exact O_sub | apply O_mul | apply O_div | apply O_mod
    | (apply T_cmp; case hm => exact rfl) | apply T_not | apply T_bop
    | exact h3
    | assumption
    | exact h4.1 | exact h4.2
    | exact of_decide_eq_true rfl
    | exact rfl)
          · exact X_s S_nil
          apply S_ret
          repeat' (first
    | exact E_int | exact E_str | exact E_none | exact E_bool
    | exact E_name rfl rfl
    | apply E_bin | apply E_neg | (apply E_sub; case hs => (intro _ _ _ _ h; cases h))
    | apply E_tup | apply E_list | exact L_nil | (apply L_cons; case hs => (intro _ _ h; cases h))
    | (apply E_bi; (case hb => exact rfl); (case hf => kernel_rfl); (case hg => exact ⟨rfl, rfl, of_decide_eq_true rfl⟩))
    | (apply E_call; (case hf => kernel_rfl); (case hg => exact ⟨rfl, rfl, of_decide_eq_true rfl⟩))
    | exact O_add | exact O_sub | apply O_mul | apply O_div | apply O_mod
    | (apply T_cmp; case hm => exact rfl) | apply T_not | apply T_bop
    | exact O_pow ⟨m0, m1, s1⟩
    | assumption
    | exact O_pow ⟨m0, m1, s2⟩
    | exact of_decide_eq_true rfl
    | exact rfl)
        · exact .inl rfl
      · first | exact no_some h | cases h
    · first | exact no_some h | cases h
  · exact rpowP_spec h
theorem pdiv_spec {n : Nat} {a b : Q2} {σ : Store} (h1 : a.1 ≤ b.1) (h2 : a.2 ≤ b.2) : callF P0 (n + 1) (Str.ofString "powers_divide") [qV a, qV b] σ = some (.bool true, σ) := by
  have h1' : decide (b.1 < a.1) = false := decide_eq_false (by exact Int.not_lt_of_ge h1)
  have h2' : decide (b.2 < a.2) = false := decide_eq_false (by exact Int.not_lt_of_ge h2)
  apply call_in find_powers_divide ok_powers_divide
  · exact rfl
  · apply S_for
    · apply R_enum
      · exact rfl
      · exact rfl
      · repeat' (first
    | exact E_int | exact E_str | exact E_none | exact E_bool
    | exact E_name rfl rfl
    | apply E_bin | apply E_neg | (apply E_sub; case hs => (intro _ _ _ _ h; cases h))
    | apply E_tup | apply E_list | exact L_nil | (apply L_cons; case hs => (intro _ _ h; cases h))
    | (apply E_bi; (case hb => exact rfl); (case hf => kernel_rfl); (case hg => exact ⟨rfl, rfl, of_decide_eq_true rfl⟩))
    | (apply E_call; (case hf => kernel_rfl); (case hg => exact ⟨rfl, rfl, of_decide_eq_true rfl⟩))
    | exact O_add | exact O_sub | apply O_mul | apply O_div | apply O_mod
    | (apply T_cmp; case hm => exact rfl) | apply T_not | apply T_bop
    | fail
    | assumption
    | fail
    | exact of_decide_eq_true rfl
    | exact rfl)
    · apply F_item
      · exact rfl
      · exact rfl
      · exact rfl
      · exact rfl
      · apply X_s
        apply S_ifF
        · repeat' (first
    | exact E_int | exact E_str | exact E_none | exact E_bool
    | exact E_name rfl rfl
    | apply E_bin | apply E_neg | (apply E_sub; case hs => (intro _ _ _ _ h; cases h))
    | apply E_tup | apply E_list | exact L_nil | (apply L_cons; case hs => (intro _ _ h; cases h))
    | (apply E_bi; (case hb => exact rfl); (case hf => kernel_rfl); (case hg => exact ⟨rfl, rfl, of_decide_eq_true rfl⟩))
    | (apply E_call; (case hf => kernel_rfl); (case hg => exact ⟨rfl, rfl, of_decide_eq_true rfl⟩))
    | exact O_add | exact O_sub | apply O_mul | apply O_div | apply O_mod
    | (apply T_cmp; case hm => exact rfl) | apply T_not | apply T_bop
    | fail
    | assumption
    | fail
    | exact of_decide_eq_true rfl
    | exact rfl)
        · exact X_s S_nil
        · exact S_nil
      · exact .inl rfl
      apply F_item
      · exact rfl
      · exact rfl
      · exact rfl
      · exact rfl
      · apply X_s
        apply S_ifF
        · repeat' (first
    | exact E_int | exact E_str | exact E_none | exact E_bool
    | exact E_name rfl rfl
    | apply E_bin | apply E_neg | (apply E_sub; case hs => (intro _ _ _ _ h; cases h))
    | apply E_tup | apply E_list | exact L_nil | (apply L_cons; case hs => (intro _ _ h; cases h))
    | (apply E_bi; (case hb => exact rfl); (case hf => kernel_rfl); (case hg => exact ⟨rfl, rfl, of_decide_eq_true rfl⟩))
    | (apply E_call; (case hf => kernel_rfl); (case hg => exact ⟨rfl, rfl, of_decide_eq_true rfl⟩))
    | exact O_add | exact O_sub | apply O_mul | apply O_div | apply O_mod
    | (apply T_cmp; case hm => exact rfl) | apply T_not | apply T_bop
    | fail
    | assumption
    | fail
    | exact of_decide_eq_true rfl
    | exact rfl)
        · exact X_s S_nil
        · exact S_nil
      · exact .inl rfl
      apply F_end
      · exact rfl
      · exact rfl
      · exact rfl
    apply S_ret
    repeat' (first
    | exact E_int | exact E_str | exact E_none | exact E_bool
    | exact E_name rfl rfl
    | apply E_bin | apply E_neg | (apply E_sub; case hs => (intro _ _ _ _ h; cases h))
    | apply E_tup | apply E_list | exact L_nil | (apply L_cons; case hs => (intro _ _ h; cases h))
    | (apply E_bi; (case hb => exact rfl); (case hf => kernel_rfl); (case hg => exact ⟨rfl, rfl, of_decide_eq_true rfl⟩))
    | (apply E_call; (case hf => kernel_rfl); (case hg => exact ⟨rfl, rfl, of_decide_eq_true rfl⟩))
    | exact O_add | exact O_sub | apply O_mul | apply O_div | apply O_mod
    | (apply T_cmp; case hm => exact rfl) | apply T_not | apply T_bop
    | fail
    | assumption
    | fail
    | exact of_decide_eq_true rfl
    | exact rfl)
  · exact .inl rfl
/-- a polynomial as a row of terms -/
noncomputable abbrev PL := List (Q2 × Q2)
noncomputable abbrev kL (k : Q2) : List Int := [k.1, k.2]
noncomputable def D (p : PL) : List (List Int × V) := p.map fun e => (kL e.1, qV e.2)
noncomputable def plGet : PL → Q2 → Option Q2
  | [], _ => none
  | (k, q) :: r, x => if k = x then some q else plGet r x
theorem kL_inj {a b : Q2} : kL a = kL b ↔ a = b := by
  obtain ⟨a1, a2⟩ := a
  obtain ⟨b1, b2⟩ := b
  simp
theorem dget_D : ∀ {p : PL} {k : Q2}, dget (D p) (kL k) = (plGet p k).map qV
  | [], _ => rfl
  | (k', q) :: r, k => by
    show (if kL k' = kL k then some (qV q) else dget (D r) (kL k)) = _
    unfold plGet
    by_cases h : k' = k
    · rw [if_pos (kL_inj.mpr h), if_pos h]; rfl
    · rw [if_neg (fun q => h (kL_inj.mp q)), if_neg h]; exact dget_D
noncomputable def plPut (p : PL) (k q : Q2) : PL := match plGet p k with
  | some _ => p.map fun e => if e.1 = k then (e.1, q) else e
  | none => p ++ [(k, q)]
noncomputable def plDel (p : PL) (k : Q2) : PL := p.filter fun e => !decide (e.1 = k)
theorem dput_D {p : PL} {k q : Q2} : dput (D p) (kL k) (qV q) = D (plPut p k q) := by
  unfold dput plPut
  rw [dget_D]
  cases plGet p k with
  | none => simp [D]
  | some o =>
    simp only [Option.map_some, D, List.map_map]
    refine List.map_congr_left fun e _ => ?_
    simp only [Function.comp]
    by_cases h : e.1 = k
    · rw [if_pos (kL_inj.mpr h), if_pos h]
    · rw [if_neg (fun q => h (kL_inj.mp q)), if_neg h]
theorem ddel_D {p : PL} {k : Q2} : ddel (D p) (kL k) = D (plDel p k) := by
  unfold ddel plDel D
  rw [List.filter_map]
  congr 1
  refine List.filter_congr fun e _ => ?_
  simp only [Function.comp]
  congr 1
  by_cases h : e.1 = k
  · rw [decide_eq_true h, decide_eq_true (kL_inj.mpr h)]
  · rw [decide_eq_false h, decide_eq_false (fun q => h (kL_inj.mp q))]
theorem D_len {p : PL} : (D p).length = p.length := by simp [D]
section
variable {σ σ1 : Store} {n ep : Nat} {p : PL} {k q : Q2}
theorem O_get (h : σ[n]? = some (.dict (D p) ep)) (hg : plGet p k = some q) : getitem (.obj n) (qV k) σ = some (qV q) := by
  have hi : intsOf [V.int k.1, V.int k.2] = some (kL k) := rfl
  delta getitem; dsimp only; simp only [h, hi, dget_D, hg, Option.map_some]
theorem O_in (h : σ[n]? = some (.dict (D p) ep)) : cmp .In (qV k) (.obj n) σ = some (plGet p k).isSome := by
  have hi : intsOf [V.int k.1, V.int k.2] = some (kL k) := rfl
  delta cmp; dsimp only; simp only [h, hi, dget_D, Option.isSome_map]
theorem O_set (h : σ[n]? = some (.dict (D p) ep)) (hl : p.length < lim) : ∃ ep', setitem (.obj n) (qV k) (qV q) σ = some (σ.set n (.dict (D (plPut p k q)) ep')) := by
  have hi : intsOf [V.int k.1, V.int k.2] = some (kL k) := rfl
  refine ⟨(match dget (D p) (kL k) with | some _ => ep | none => ep + 1), ?_⟩
  delta setitem; dsimp only; simp only [h, hi]
  rw [if_pos (by rw [D_len]; exact hl)]
  unfold setD
  rw [dput_D]
  try (cases dget (D p) (kL k) <;> rfl)
theorem O_pre (h : σ[n]? = some (.dict (D p) ep)) : methPre (.obj n) (Str.ofString "pop") σ = true := by
  delta methPre; dsimp only; simp [h]
theorem O_pop {dv : V} (h : σ[n]? = some (.dict (D p) ep)) (hl : p.length < lim) (hg : plGet p k = some q) : methodV (.obj n) (Str.ofString "pop") [qV k, dv] σ = some (qV q, σ.set n (.dict (D (plDel p k)) (ep + 1))) := by
  have hi : intsOf [V.int k.1, V.int k.2] = some (kL k) := rfl
  delta methodV; dsimp only; simp only [if_true, h, hi]
  rw [if_pos (by rw [D_len]; exact hl), dget_D, hg, ← ddel_D]
  rfl
end
noncomputable def addT (p : PL) (k q : Q2) : Option PL := if p.length < lim then (match plGet p k with
  | some o => (match raddL o q with
    | some t => if t = (0, 1) then some (plDel p k) else some (plPut p k t)
    | none => none)
  | none => if q = (0, 1) then none else some (plPut p k q)) else none
theorem dec_pair {t : Q2} {c : Bool} (h : decide (t = (0, 1)) = c) : decide ([t.1, t.2] = [(0 : Int), 1]) = c := by
  rw [← h]
  obtain ⟨a, b⟩ := t
  simp
theorem add_spec {m n ep : Nat} {p p' : PL} {k q : Q2} {σ : Store} (hn : σ[n]? = some (.dict (D p) ep)) (h : addT p k q = some p') : ∃ ep', callF P0 (m + 4) (Str.ofString "add_term") [.obj n, qV k, qV q] σ = some (.none, σ.set n (.dict (D p') ep')) := by
  unfold addT at h
  split at h
  · rename_i hl
    have hin := O_in (k := k) hn
    split at h
    · rename_i o ho
      rw [ho] at hin
      split at h
      · rename_i t ht
        have hr := radd_spec (n := m) (σ := σ) ht
        have hget := O_get hn ho
        split at h
        · rename_i h0
          cases h
          have hd := dec_pair (decide_eq_true h0)
          have hpre := O_pre hn
          have hpop := O_pop (dv := .none) hn hl ho
          refine ⟨ep + 1, ?_⟩
          apply call_in find_add_term ok_add_term
          · exact rfl
          · apply S_asg
            · apply E_ifT
              · repeat' (first
    | exact E_int | exact E_str | exact E_none | exact E_bool
    | exact E_name rfl rfl
    | apply E_bin | apply E_neg | (apply E_sub; case hs => (intro _ _ _ _ h; cases h))
    | apply E_tup | apply E_list | exact L_nil | (apply L_cons; case hs => (intro _ _ h; cases h))
    | (apply E_bi; (case hb => exact rfl); (case hf => kernel_rfl); (case hg => exact ⟨rfl, rfl, of_decide_eq_true rfl⟩))
    | (apply E_call; (case hf => kernel_rfl); (case hg => exact ⟨rfl, rfl, of_decide_eq_true rfl⟩))
    | exact O_add | exact O_sub | apply O_mul | apply O_div | apply O_mod
    | (apply T_cmp; case hm => exact rfl) | apply T_not | apply T_bop
    | exact hin
    | assumption
    | exact hget | exact hr
    | exact of_decide_eq_true rfl
    | exact rfl)
              · repeat' (first
    | exact E_int | exact E_str | exact E_none | exact E_bool
    | exact E_name rfl rfl
    | apply E_bin | apply E_neg | (apply E_sub; case hs => (intro _ _ _ _ h; cases h))
    | apply E_tup | apply E_list | exact L_nil | (apply L_cons; case hs => (intro _ _ h; cases h))
    | (apply E_bi; (case hb => exact rfl); (case hf => kernel_rfl); (case hg => exact ⟨rfl, rfl, of_decide_eq_true rfl⟩))
    | (apply E_call; (case hf => kernel_rfl); (case hg => exact ⟨rfl, rfl, of_decide_eq_true rfl⟩))
    | exact O_add | exact O_sub | apply O_mul | apply O_div | apply O_mod
    | (apply T_cmp; case hm => exact rfl) | apply T_not | apply T_bop
    | exact hin
    | assumption
    | exact hget | exact hr
    | exact of_decide_eq_true rfl
    | exact rfl)
            · exact rfl
            · exact .inl rfl
            apply S_ifT
            · repeat' (first
    | exact E_int | exact E_str | exact E_none | exact E_bool
    | exact E_name rfl rfl
    | apply E_bin | apply E_neg | (apply E_sub; case hs => (intro _ _ _ _ h; cases h))
    | apply E_tup | apply E_list | exact L_nil | (apply L_cons; case hs => (intro _ _ h; cases h))
    | (apply E_bi; (case hb => exact rfl); (case hf => kernel_rfl); (case hg => exact ⟨rfl, rfl, of_decide_eq_true rfl⟩))
    | (apply E_call; (case hf => kernel_rfl); (case hg => exact ⟨rfl, rfl, of_decide_eq_true rfl⟩))
    | exact O_add | exact O_sub | apply O_mul | apply O_div | apply O_mod
    | (apply T_cmp; case hm => exact rfl) | apply T_not | apply T_bop
    | fail
    | assumption
    | fail
    | exact of_decide_eq_true rfl
    | exact rfl)
            · apply X_s
              apply S_expr
              · apply E_meth
                · exact ⟨of_decide_eq_true rfl, rfl⟩
                · repeat' (first
    | exact E_int | exact E_str | exact E_none | exact E_bool
    | exact E_name rfl rfl
    | apply E_bin | apply E_neg | (apply E_sub; case hs => (intro _ _ _ _ h; cases h))
    | apply E_tup | apply E_list | exact L_nil | (apply L_cons; case hs => (intro _ _ h; cases h))
    | (apply E_bi; (case hb => exact rfl); (case hf => kernel_rfl); (case hg => exact ⟨rfl, rfl, of_decide_eq_true rfl⟩))
    | (apply E_call; (case hf => kernel_rfl); (case hg => exact ⟨rfl, rfl, of_decide_eq_true rfl⟩))
    | exact O_add | exact O_sub | apply O_mul | apply O_div | apply O_mod
    | (apply T_cmp; case hm => exact rfl) | apply T_not | apply T_bop
    | fail
    | assumption
    | fail
    | exact of_decide_eq_true rfl
    | exact rfl)
                · exact hpre
                · repeat' (first
    | exact E_int | exact E_str | exact E_none | exact E_bool
    | exact E_name rfl rfl
    | apply E_bin | apply E_neg | (apply E_sub; case hs => (intro _ _ _ _ h; cases h))
    | apply E_tup | apply E_list | exact L_nil | (apply L_cons; case hs => (intro _ _ h; cases h))
    | (apply E_bi; (case hb => exact rfl); (case hf => kernel_rfl); (case hg => exact ⟨rfl, rfl, of_decide_eq_true rfl⟩))
    | (apply E_call; (case hf => kernel_rfl); (case hg => exact ⟨rfl, rfl, of_decide_eq_true rfl⟩))
    | exact O_add | exact O_sub | apply O_mul | apply O_div | apply O_mod
    | (apply T_cmp; case hm => exact rfl) | apply T_not | apply T_bop
    | fail
    | assumption
    | fail
    | exact of_decide_eq_true rfl
    | exact rfl)
                · exact hpop
              · exact S_nil
            · exact S_nil
          · exact .inr ⟨rfl, rfl⟩
        · rename_i h0
          cases h
          have hd := dec_pair (decide_eq_false h0)
          obtain ⟨ep', hset⟩ := O_set (k := k) (q := t) hn hl
          refine ⟨ep', ?_⟩
          apply call_in find_add_term ok_add_term
          · exact rfl
          · apply S_asg
            · apply E_ifT
              · repeat' (first
    | exact E_int | exact E_str | exact E_none | exact E_bool
    | exact E_name rfl rfl
    | apply E_bin | apply E_neg | (apply E_sub; case hs => (intro _ _ _ _ h; cases h))
    | apply E_tup | apply E_list | exact L_nil | (apply L_cons; case hs => (intro _ _ h; cases h))
    | (apply E_bi; (case hb => exact rfl); (case hf => kernel_rfl); (case hg => exact ⟨rfl, rfl, of_decide_eq_true rfl⟩))
    | (apply E_call; (case hf => kernel_rfl); (case hg => exact ⟨rfl, rfl, of_decide_eq_true rfl⟩))
    | exact O_add | exact O_sub | apply O_mul | apply O_div | apply O_mod
    | (apply T_cmp; case hm => exact rfl) | apply T_not | apply T_bop
    | exact hin
    | assumption
    | exact hget | exact hr
    | exact of_decide_eq_true rfl
    | exact rfl)
              · repeat' (first
    | exact E_int | exact E_str | exact E_none | exact E_bool
    | exact E_name rfl rfl
    | apply E_bin | apply E_neg | (apply E_sub; case hs => (intro _ _ _ _ h; cases h))
    | apply E_tup | apply E_list | exact L_nil | (apply L_cons; case hs => (intro _ _ h; cases h))
    | (apply E_bi; (case hb => exact rfl); (case hf => kernel_rfl); (case hg => exact ⟨rfl, rfl, of_decide_eq_true rfl⟩))
    | (apply E_call; (case hf => kernel_rfl); (case hg => exact ⟨rfl, rfl, of_decide_eq_true rfl⟩))
    | exact O_add | exact O_sub | apply O_mul | apply O_div | apply O_mod
    | (apply T_cmp; case hm => exact rfl) | apply T_not | apply T_bop
    | exact hin
    | assumption
    | exact hget | exact hr
    | exact of_decide_eq_true rfl
    | exact rfl)
            · exact rfl
            · exact .inl rfl
            apply S_ifF
            · repeat' (first
    | exact E_int | exact E_str | exact E_none | exact E_bool
    | exact E_name rfl rfl
    | apply E_bin | apply E_neg | (apply E_sub; case hs => (intro _ _ _ _ h; cases h))
    | apply E_tup | apply E_list | exact L_nil | (apply L_cons; case hs => (intro _ _ h; cases h))
    | (apply E_bi; (case hb => exact rfl); (case hf => kernel_rfl); (case hg => exact ⟨rfl, rfl, of_decide_eq_true rfl⟩))
    | (apply E_call; (case hf => kernel_rfl); (case hg => exact ⟨rfl, rfl, of_decide_eq_true rfl⟩))
    | exact O_add | exact O_sub | apply O_mul | apply O_div | apply O_mod
    | (apply T_cmp; case hm => exact rfl) | apply T_not | apply T_bop
    | fail
    | assumption
    | fail
    | exact of_decide_eq_true rfl
    | exact rfl)
            · apply X_s
              apply S_set
              · repeat' (first
    | exact E_int | exact E_str | exact E_none | exact E_bool
    | exact E_name rfl rfl
    | apply E_bin | apply E_neg | (apply E_sub; case hs => (intro _ _ _ _ h; cases h))
    | apply E_tup | apply E_list | exact L_nil | (apply L_cons; case hs => (intro _ _ h; cases h))
    | (apply E_bi; (case hb => exact rfl); (case hf => kernel_rfl); (case hg => exact ⟨rfl, rfl, of_decide_eq_true rfl⟩))
    | (apply E_call; (case hf => kernel_rfl); (case hg => exact ⟨rfl, rfl, of_decide_eq_true rfl⟩))
    | exact O_add | exact O_sub | apply O_mul | apply O_div | apply O_mod
    | (apply T_cmp; case hm => exact rfl) | apply T_not | apply T_bop
    | fail
    | assumption
    | fail
    | exact of_decide_eq_true rfl
    | exact rfl)
              · repeat' (first
    | exact E_int | exact E_str | exact E_none | exact E_bool
    | exact E_name rfl rfl
    | apply E_bin | apply E_neg | (apply E_sub; case hs => (intro _ _ _ _ h; cases h))
    | apply E_tup | apply E_list | exact L_nil | (apply L_cons; case hs => (intro _ _ h; cases h))
    | (apply E_bi; (case hb => exact rfl); (case hf => kernel_rfl); (case hg => exact ⟨rfl, rfl, of_decide_eq_true rfl⟩))
    | (apply E_call; (case hf => kernel_rfl); (case hg => exact ⟨rfl, rfl, of_decide_eq_true rfl⟩))
    | exact O_add | exact O_sub | apply O_mul | apply O_div | apply O_mod
    | (apply T_cmp; case hm => exact rfl) | apply T_not | apply T_bop
    | fail
    | assumption
    | fail
    | exact of_decide_eq_true rfl
    | exact rfl)
              · repeat' (first
    | exact E_int | exact E_str | exact E_none | exact E_bool
    | exact E_name rfl rfl
    | apply E_bin | apply E_neg | (apply E_sub; case hs => (intro _ _ _ _ h; cases h))
    | apply E_tup | apply E_list | exact L_nil | (apply L_cons; case hs => (intro _ _ h; cases h))
    | (apply E_bi; (case hb => exact rfl); (case hf => kernel_rfl); (case hg => exact ⟨rfl, rfl, of_decide_eq_true rfl⟩))
    | (apply E_call; (case hf => kernel_rfl); (case hg => exact ⟨rfl, rfl, of_decide_eq_true rfl⟩))
    | exact O_add | exact O_sub | apply O_mul | apply O_div | apply O_mod
    | (apply T_cmp; case hm => exact rfl) | apply T_not | apply T_bop
    | fail
    | assumption
    | fail
    | exact of_decide_eq_true rfl
    | exact rfl)
              · exact hset
              · exact rfl
              · exact S_nil
            · exact S_nil
          · exact .inr ⟨rfl, rfl⟩
      · first | exact no_some h | cases h
    · rename_i ho
      rw [ho] at hin
      split at h
      · first | exact no_some h | cases h
      · rename_i h0
        cases h
        have hd := dec_pair (decide_eq_false h0)
        obtain ⟨ep', hset⟩ := O_set (k := k) (q := q) hn hl
        refine ⟨ep', ?_⟩
        apply call_in find_add_term ok_add_term
        · exact rfl
        · apply S_asg
          · apply E_ifF
            · repeat' (first
    | exact E_int | exact E_str | exact E_none | exact E_bool
    | exact E_name rfl rfl
    | apply E_bin | apply E_neg | (apply E_sub; case hs => (intro _ _ _ _ h; cases h))
    | apply E_tup | apply E_list | exact L_nil | (apply L_cons; case hs => (intro _ _ h; cases h))
    | (apply E_bi; (case hb => exact rfl); (case hf => kernel_rfl); (case hg => exact ⟨rfl, rfl, of_decide_eq_true rfl⟩))
    | (apply E_call; (case hf => kernel_rfl); (case hg => exact ⟨rfl, rfl, of_decide_eq_true rfl⟩))
    | exact O_add | exact O_sub | apply O_mul | apply O_div | apply O_mod
    | (apply T_cmp; case hm => exact rfl) | apply T_not | apply T_bop
    | exact hin
    | assumption
    | exact hget | exact hr
    | exact of_decide_eq_true rfl
    | exact rfl)
            · repeat' (first
    | exact E_int | exact E_str | exact E_none | exact E_bool
    | exact E_name rfl rfl
    | apply E_bin | apply E_neg | (apply E_sub; case hs => (intro _ _ _ _ h; cases h))
    | apply E_tup | apply E_list | exact L_nil | (apply L_cons; case hs => (intro _ _ h; cases h))
    | (apply E_bi; (case hb => exact rfl); (case hf => kernel_rfl); (case hg => exact ⟨rfl, rfl, of_decide_eq_true rfl⟩))
    | (apply E_call; (case hf => kernel_rfl); (case hg => exact ⟨rfl, rfl, of_decide_eq_true rfl⟩))
    | exact O_add | exact O_sub | apply O_mul | apply O_div | apply O_mod
    | (apply T_cmp; case hm => exact rfl) | apply T_not | apply T_bop
    | exact hin
    | assumption
    | exact hget | exact hr
    | exact of_decide_eq_true rfl
    | exact rfl)
          · exact rfl
          · exact .inl rfl
          apply S_ifF
          · repeat' (first
    | exact E_int | exact E_str | exact E_none | exact E_bool
    | exact E_name rfl rfl
    | apply E_bin | apply E_neg | (apply E_sub; case hs => (intro _ _ _ _ h; cases h))
    | apply E_tup | apply E_list | exact L_nil | (apply L_cons; case hs => (intro _ _ h; cases h))
    | (apply E_bi; (case hb => exact rfl); (case hf => kernel_rfl); (case hg => exact ⟨rfl, rfl, of_decide_eq_true rfl⟩))
    | (apply E_call; (case hf => kernel_rfl); (case hg => exact ⟨rfl, rfl, of_decide_eq_true rfl⟩))
    | exact O_add | exact O_sub | apply O_mul | apply O_div | apply O_mod
    | (apply T_cmp; case hm => exact rfl) | apply T_not | apply T_bop
    | fail
    | assumption
    | fail
    | exact of_decide_eq_true rfl
    | exact rfl)
          · apply X_s
            apply S_set
            · repeat' (first
    | exact E_int | exact E_str | exact E_none | exact E_bool
    | exact E_name rfl rfl
    | apply E_bin | apply E_neg | (apply E_sub; case hs => (intro _ _ _ _ h; cases h))
    | apply E_tup | apply E_list | exact L_nil | (apply L_cons; case hs => (intro _ _ h; cases h))
    | (apply E_bi; (case hb => exact rfl); (case hf => kernel_rfl); (case hg => exact ⟨rfl, rfl, of_decide_eq_true rfl⟩))
    | (apply E_call; (case hf => kernel_rfl); (case hg => exact ⟨rfl, rfl, of_decide_eq_true rfl⟩))
    | exact O_add | exact O_sub | apply O_mul | apply O_div | apply O_mod
    | (apply T_cmp; case hm => exact rfl) | apply T_not | apply T_bop
    | fail
    | assumption
    | fail
    | exact of_decide_eq_true rfl
    | exact rfl)
            · repeat' (first
    | exact E_int | exact E_str | exact E_none | exact E_bool
    | exact E_name rfl rfl
    | apply E_bin | apply E_neg | (apply E_sub; case hs => (intro _ _ _ _ h; cases h))
    | apply E_tup | apply E_list | exact L_nil | (apply L_cons; case hs => (intro _ _ h; cases h))
    | (apply E_bi; (case hb => exact rfl); (case hf => kernel_rfl); (case hg => exact ⟨rfl, rfl, of_decide_eq_true rfl⟩))
    | (apply E_call; (case hf => kernel_rfl); (case hg => exact ⟨rfl, rfl, of_decide_eq_true rfl⟩))
    | exact O_add | exact O_sub | apply O_mul | apply O_div | apply O_mod
    | (apply T_cmp; case hm => exact rfl) | apply T_not | apply T_bop
    | fail
    | assumption
    | fail
    | exact of_decide_eq_true rfl
    | exact rfl)
            · repeat' (first
    | exact E_int | exact E_str | exact E_none | exact E_bool
    | exact E_name rfl rfl
    | apply E_bin | apply E_neg | (apply E_sub; case hs => (intro _ _ _ _ h; cases h))
    | apply E_tup | apply E_list | exact L_nil | (apply L_cons; case hs => (intro _ _ h; cases h))
    | (apply E_bi; (case hb => exact rfl); (case hf => kernel_rfl); (case hg => exact ⟨rfl, rfl, of_decide_eq_true rfl⟩))
    | (apply E_call; (case hf => kernel_rfl); (case hg => exact ⟨rfl, rfl, of_decide_eq_true rfl⟩))
    | exact O_add | exact O_sub | apply O_mul | apply O_div | apply O_mod
    | (apply T_cmp; case hm => exact rfl) | apply T_not | apply T_bop
    | fail
    | assumption
    | fail
    | exact of_decide_eq_true rfl
    | exact rfl)
            · exact hset
            · exact rfl
            · exact S_nil
          · exact S_nil
        · exact .inr ⟨rfl, rfl⟩
  · first | exact no_some h | cases h
end Mine
namespace Mine
open PySem PyProof.Rows
/-- what lies in the store stays; more may lie behind -/
noncomputable def Ext (σ σ' : Store) : Prop := ∀ (n : Nat) (c : Cell), σ[n]? = some c → σ'[n]? = some c
theorem Ext.refl (σ : Store) : Ext σ σ := fun _ _ h => h
theorem Ext.trans {a b c : Store} (h : Ext a b) (k : Ext b c) : Ext a c := fun n x e => k n x (h n x e)
theorem Ext.app {σ e : Store} : Ext σ (σ ++ e) := fun n c h => by rw [List.getElem?_append_left (List.getElem?_eq_some_iff.mp h).1]; exact h
theorem Ext.set {σ σ' : Store} (h : Ext σ σ') {j : Nat} {c : Cell} (hj : σ.length ≤ j) : Ext σ (σ'.set j c) := fun n x e => by
  have hn := (List.getElem?_eq_some_iff.mp e).1
  rw [List.getElem?_set_ne (by exact ar165 hj hn)]
  exact h n x e
theorem Ext.len {σ σ' : Store} (h : Ext σ σ') : σ.length ≤ σ'.length := by
  rcases Nat.lt_or_ge σ'.length σ.length with q | q
  · have e := h σ'.length _ (List.getElem?_eq_getElem q)
    exact absurd (List.getElem?_eq_some_iff.mp e).1 (Nat.lt_irrefl _)
  · exact q
theorem get_set {σ : Store} {j : Nat} {c c' : Cell} (h : σ[j]? = some c') : (σ.set j c)[j]? = some c := by
  have := (List.getElem?_eq_some_iff.mp h).1
  simp [this]
/-- a fresh dict -/
noncomputable def FreshD (σ : Store) (r : PL) (v : V) (σ' : Store) : Prop := ∃ j ep, v = .obj j ∧ Ext σ σ' ∧ σ'[j]? = some (.dict (D r) ep) ∧ σ.length ≤ j
theorem elimD {call : Option (V × Store)} {σ : Store} {r : PL} {G : Prop} (h : ∃ v σ', call = some (v, σ') ∧ FreshD σ r v σ') (k : ∀ (σ' : Store) (j ep : Nat), call = some (.obj j, σ') → Ext σ σ' → σ'[j]? = some (.dict (D r) ep) → σ.length ≤ j → G) : G := by
  obtain ⟨v, σ', h1, j, ep, rfl, h2, h3, h4⟩ := h
  exact k σ' j ep h1 h2 h3 h4
noncomputable abbrev keys (p : PL) : List Q2 := p.map (·.1)
section
variable {T : Tb} {d : Nat} {cx : Cx} {ρ ρ1 ρ2 : Rho} {σ σ1 σ2 : Store} {Q : Fl → Rho → Store → Prop} {x : Str} {pp q : Pos} {e : Expr} {r body : List Stmt} {α : Type}
noncomputable def onKey (step : α → Q2 → Option α) (a : α) (e : List Int × V) : Option α := match e.1 with
  | [i, j] => step a (i, j)
  | _ => none
theorem fold_keys {step : α → Q2 → Option α} : ∀ {p : PL} {a : α}, foldF (onKey step) a (D p) = foldF step a (keys p)
  | [], _ => rfl
  | (k, c) :: r, a => by
    show (match onKey step a (kL k, qV c) with | some a' => foldF (onKey step) a' (D r) | none => none) = (match step a k with | some a' => foldF step a' (keys r) | none => none)
    have : onKey step a (kL k, qV c) = step a k := rfl
    rw [this]
    cases step a k with
    | none => rfl
    | some a' => exact fold_keys
theorem onKey_inv {step : α → Q2 → Option α} {p : PL} {a a' : α} {e : List Int × V} (he : e ∈ D p) (h : onKey step a e = some a') : ∃ k, e.1 = kL k ∧ k ∈ keys p ∧ step a k = some a' := by
  obtain ⟨y, hy, rfl⟩ := List.mem_map.mp he
  exact ⟨y.1, rfl, List.mem_map.mpr ⟨y, hy, rfl⟩, h⟩
theorem R_forPL {n ep : Nat} {p : PL} {step : α → Q2 → Option α} (Rel : α → Rho → Store → Prop) (hi : iterE T (ev T d) cx e ρ σ = some (.dict n 0 (D p).length ep, σ1)) (hlen : p.length < 10000) {a0 r0 : α} (hf : foldF step a0 (keys p) = some r0) (hr : Rel a0 ρ σ1)
    (hk : ∀ a ρ σ, Rel a ρ σ → σ[n]? = some (.dict (D p) ep))
    (hs : ∀ a k a' ρ σ, k ∈ keys p → step a k = some a' → Rel a ρ σ → ∃ ρ1, rset ρ x (qV k) = some ρ1 ∧ RunB T d cx body ρ1 σ fun fl ρ2 σ2 => (fl = .next ∨ fl = .cont) ∧ Rel a' ρ2 σ2)
    (h : ∀ ρ' σ', Rel r0 ρ' σ' → Run T d cx r ρ' σ' Q) : Run T d cx (.For (.Name x pp) e body [] q :: r) ρ σ Q := by
  refine R_forDict (step := onKey step) (r0 := r0) Rel hi (by rw [D_len]; exact Nat.lt_add_left _ hlen) (by rw [fold_keys]; exact hf) hr hk (fun a e a' ρ σ he hs' hr' => ?_) h
  obtain ⟨k, h1, h2, h3⟩ := onKey_inv he hs'
  obtain ⟨ρ1, g1, g2⟩ := hs a k a' ρ σ h2 h3 hr'
  exact ⟨ρ1, by rw [h1]; exact g1, g2⟩
theorem comp_PL {inner : Rho → Store → Option (Rho × Store)} {n ep : Nat} {p : PL} {ifs : List Expr} {step : α → Q2 → Option α} (Rel : α → Rho → Store → Prop) (hlen : p.length < 10000) {a0 r0 : α} (hf : foldF step a0 (keys p) = some r0) (hr : Rel a0 ρ σ)
    (hk : ∀ a ρ σ, Rel a ρ σ → σ[n]? = some (.dict (D p) ep))
    (hs : ∀ a k a' ρ σ, k ∈ keys p → step a k = some a' → Rel a ρ σ → ∃ ρ1 c σ1, rset ρ x (qV k) = some ρ1 ∧ testsL (ev T d) cx ifs ρ1 σ = some (c, σ1) ∧ (if c = true then ∃ ρ2 σ2, inner ρ1 σ1 = some (ρ2, σ2) ∧ Rel a' ρ2 σ2 else Rel a' ρ1 σ1)) :
    ∃ ρ' σ', compL (ev T d) cx inner (.Name x pp) ifs bud (.dict n 0 (D p).length ep) ρ σ = some (ρ', σ') ∧ Rel r0 ρ' σ' := by
  obtain ⟨j, hj⟩ := bud_split (k := (D p).length + 1) (by rw [D_len]; unfold bud; exact ar36 hlen)
  rw [hj]
  refine comp_dict (step := onKey step) Rel hk (fun a e a' ρ σ he hs' hr' => ?_) (D p) 0 j a0 r0 ρ σ rfl (by rw [fold_keys]; exact hf) hr
  obtain ⟨k, h1, h2, h3⟩ := onKey_inv he hs'
  obtain ⟨ρ1, c, σ1, g1, g2, g3⟩ := hs a k a' ρ σ h2 h3 hr'
  exact ⟨ρ1, c, σ1, by rw [h1]; exact g1, g2, g3⟩
end
noncomputable def mvaddL (p q : PL) : Option PL := if p.length < lim ∧ q.length < lim ∧ apart (p.map fun e => hashK (kL e.1)) = true then foldF (fun acc k => match plGet q k with
  | some c => addT acc k c
  | none => none) p (keys q) else none
theorem map_D {β : Type} (f : List Int → β) {p : PL} : (D p).map (fun e => f e.1) = p.map fun e => f (kL e.1) := by simp [D]
theorem O_copy0 {σ : Store} {n ep : Nat} {es : List (List Int × V)} (h : σ[n]? = some (.dict es ep)) (hl : es.length < lim) (ha : apart (es.map fun e => hashK e.1) = true) : biCall .dict [.obj n] σ = some (.obj σ.length, σ ++ [.dict es (if es.isEmpty then 0 else 1)]) := by
  delta biCall; dsimp only
  rw [h]
  dsimp only
  rw [if_pos (And.intro hl ha)]
theorem O_copy {σ : Store} {n ep : Nat} {p : PL} (h : σ[n]? = some (.dict (D p) ep)) (hl : p.length < lim) (ha : apart (p.map fun e => hashK (kL e.1)) = true) : ∃ ep0, biCall .dict [.obj n] σ = some (.obj σ.length, σ ++ [.dict (D p) ep0]) :=
  ⟨_, O_copy0 h (by rw [D_len]; exact hl) (by rw [map_D hashK]; exact ha)⟩
theorem mvadd_spec {m a b ea eb : Nat} {p q r : PL} {σ : Store} (ha : σ[a]? = some (.dict (D p) ea)) (hb : σ[b]? = some (.dict (D q) eb)) (h : mvaddL p q = some r) : ∃ v σ', callF P0 (m + 5) (Str.ofString "mvadd") [.obj a, .obj b] σ = some (v, σ') ∧ FreshD σ r v σ' := by
  unfold mvaddL at h
  split at h
  · rename_i hc
    obtain ⟨l1, l2, hap⟩ := hc
    obtain ⟨ep0, hcp⟩ := O_copy ha l1 hap
    apply call_run _ find_mvadd ok_mvadd
    · exact rfl
    · apply R_asg
      · repeat' (first
    | exact E_int | exact E_str | exact E_none | exact E_bool
    | exact E_name rfl rfl
    | apply E_bin | apply E_neg | (apply E_sub; case hs => (intro _ _ _ _ h; cases h))
    | apply E_tup | apply E_list | exact L_nil | (apply L_cons; case hs => (intro _ _ h; cases h))
    | (apply E_bi; (case hb => exact rfl); (case hf => kernel_rfl); (case hg => exact ⟨rfl, rfl, of_decide_eq_true rfl⟩))
    | (apply E_call; (case hf => kernel_rfl); (case hg => exact ⟨rfl, rfl, of_decide_eq_true rfl⟩))
    | exact O_add | exact O_sub | apply O_mul | apply O_div | apply O_mod
    | (apply T_cmp; case hm => exact rfl) | apply T_not | apply T_bop
    | exact hcp
    | assumption
    | fail
    | exact of_decide_eq_true rfl
    | exact rfl)
      · exact rfl
      · exact .inl rfl
      refine R_forPL (σ1 := σ ++ [.dict (D p) ep0]) (p := q) (n := b) (ep := eb) (fun acc ρ' σ' => ∃ ep o, ρ' = [(Str.ofString "a", some (.obj a)), (Str.ofString "b", some (.obj b)), (Str.ofString "found", some (.obj σ.length)), (Str.ofString "powers", o)] ∧ Ext σ σ' ∧ σ'[σ.length]? = some (.dict (D acc) ep)) ?_ l2 h ⟨ep0, none, rfl, .app, get_last⟩ ?_ ?_ ?_
      · apply R_name
        · exact E_name rfl rfl
        · exact iterV_obj (Ext.app b _ hb)
      · rintro acc ρ σ' ⟨ep, o, rfl, hx, hj⟩
        exact hx b _ hb
      · rintro acc k acc' ρ σ' hk hs ⟨ep, o, rfl, hx, hj⟩
        split at hs
        · rename_i c hc
          have hg := O_get (hx b _ hb) hc
          obtain ⟨ep', had⟩ := add_spec (m := m) hj hs
          refine ⟨_, rfl, B_in ?_⟩
          apply R_expr
          · repeat' (first
    | exact E_int | exact E_str | exact E_none | exact E_bool
    | exact E_name rfl rfl
    | apply E_bin | apply E_neg | (apply E_sub; case hs => (intro _ _ _ _ h; cases h))
    | apply E_tup | apply E_list | exact L_nil | (apply L_cons; case hs => (intro _ _ h; cases h))
    | (apply E_bi; (case hb => exact rfl); (case hf => kernel_rfl); (case hg => exact ⟨rfl, rfl, of_decide_eq_true rfl⟩))
    | (apply E_call; (case hf => kernel_rfl); (case hg => exact ⟨rfl, rfl, of_decide_eq_true rfl⟩))
    | exact O_add | exact O_sub | apply O_mul | apply O_div | apply O_mod
    | (apply T_cmp; case hm => exact rfl) | apply T_not | apply T_bop
    | exact had
    | assumption
    | exact hg
    | exact of_decide_eq_true rfl
    | exact rfl)
          apply R_nil
          exact ⟨.inl rfl, ep', _, rfl, hx.set (Nat.le_refl _), get_set hj⟩
        · cases hs
      · rintro ρ' σ' ⟨ep, o, rfl, hx, hj⟩
        apply R_ret
        · repeat' (first
    | exact E_int | exact E_str | exact E_none | exact E_bool
    | exact E_name rfl rfl
    | apply E_bin | apply E_neg | (apply E_sub; case hs => (intro _ _ _ _ h; cases h))
    | apply E_tup | apply E_list | exact L_nil | (apply L_cons; case hs => (intro _ _ h; cases h))
    | (apply E_bi; (case hb => exact rfl); (case hf => kernel_rfl); (case hg => exact ⟨rfl, rfl, of_decide_eq_true rfl⟩))
    | (apply E_call; (case hf => kernel_rfl); (case hg => exact ⟨rfl, rfl, of_decide_eq_true rfl⟩))
    | exact O_add | exact O_sub | apply O_mul | apply O_div | apply O_mod
    | (apply T_cmp; case hm => exact rfl) | apply T_not | apply T_bop
    | fail
    | assumption
    | fail
    | exact of_decide_eq_true rfl
    | exact rfl)
        exact ⟨_, .inl rfl, σ.length, ep, rfl, hx, hj, Nat.le_refl _⟩
  · first | exact no_some h | cases h
section
variable {T : Tb} {d : Nat} {cx : Cx} {ρ ρ1 ρ2 : Rho} {σ σ1 σ2 : Store} {Q : Fl → Rho → Store → Prop} {q p : Pos} {e e1 e2 : Expr} {r : List Stmt}
/-- an expression with what comes after it -/
noncomputable def Xp (T : Tb) (d : Nat) (cx : Cx) (e : Expr) (ρ : Rho) (σ : Store) (K : V → Store → Prop) : Prop := ∃ v σ1, (ev T d).e cx e ρ σ = some (v, σ1) ∧ K v σ1
theorem R_retE (h : Xp T d cx e ρ σ fun v σ1 => Q (.ret v) ρ σ1) : Run T d cx (.Return (some e) q :: r) ρ σ Q := by
  obtain ⟨v, σ1, h1, h2⟩ := h
  exact R_ret h1 h2
theorem X_dcomp {g : Comprehension} {scope : Scope} {it : It} {fr : List (Str × V)} {Rel : Rho → Store → Prop} {K : V → Store → Prop} (hc : compOk cx scope = true ∧ g.is_async = 0) (hi : iterE T (ev T d) cx g.iter ρ σ = some (it, σ1)) (hf : freeVals ρ scope.names = some fr)
    (h : ∃ ρ' σ', compL (ev T d) ⟨compNm scope, fr⟩ (compGs T (ev T d) ⟨compNm scope, fr⟩ (emitDict (ev T d) ⟨compNm scope, fr⟩ σ1.length e1 e2) []) g.target g.ifs bud it (ownNames scope.names) (σ1 ++ [.dict [] 0]) = some (ρ', σ') ∧ Rel ρ' σ')
    (hK : ∀ ρ' σ', Rel ρ' σ' → K (.obj σ1.length) σ') : Xp T (d + 1) cx (.DictComp e1 e2 [g] scope p) ρ σ K := by
  obtain ⟨ρ', σ', h1, h2⟩ := h
  exact ⟨_, _, E_dcomp hc hi hf h1, hK ρ' σ' h2⟩
theorem X_lcomp {elt : Expr} {gs : List Comprehension} {g : Comprehension} {scope : Scope} {it : It} {fr : List (Str × V)} {Rel : Rho → Store → Prop} {K : V → Store → Prop} (hgs : gs = [] ∨ ∃ g2, gs = [g2]) (hc : compOk cx scope = true ∧ g.is_async = 0) (hi : iterE T (ev T d) cx g.iter ρ σ = some (it, σ1)) (hf : freeVals ρ scope.names = some fr)
    (h : ∃ ρ' σ', compL (ev T d) ⟨compNm scope, fr⟩ (compGs T (ev T d) ⟨compNm scope, fr⟩ (emitList (ev T d) ⟨compNm scope, fr⟩ σ1.length elt) gs) g.target g.ifs bud it (ownNames scope.names) (σ1 ++ [.list []]) = some (ρ', σ') ∧ Rel ρ' σ')
    (hK : ∀ ρ' σ', Rel ρ' σ' → K (.obj σ1.length) σ') : Xp T (d + 1) cx (.ListComp elt (g :: gs) scope p) ρ σ K := by
  obtain ⟨ρ', σ', h1, h2⟩ := h
  rcases hgs with rfl | ⟨g2, rfl⟩
  · exact ⟨_, _, E_lcomp hc hi hf h1, hK ρ' σ' h2⟩
  · exact ⟨_, _, E_lcomp2 hc hi hf h1, hK ρ' σ' h2⟩
end
noncomputable def mapL (f : Q2 → Q2 → Option (Q2 × Q2)) (p : PL) : Option PL := if p.length < lim then foldF (fun acc k => match plGet p k with
  | some c => (match f k c with
    | some kc => if acc.length < lim then some (plPut acc kc.1 kc.2) else none
    | none => none)
  | none => none) [] (keys p) else none
theorem setD_D {p : PL} {ep : Nat} {k c : Q2} : ∃ ep', setD (D p) ep (kL k) (qV c) = .dict (D (plPut p k c)) ep' := by
  unfold setD
  rw [dput_D]
  exact ⟨_, rfl⟩
noncomputable def mvnegL (p : PL) : Option PL := mapL (fun k c => some (k, (0 - c.1, c.2))) p
noncomputable def mvshiftL (p : PL) (k q : Q2) : Option PL := if q = (0, 1) then none else mapL (fun one c => match rmulL c q with
  | some r => some (pprod one k, r)
  | none => none) p
theorem mvneg_spec {m a ea : Nat} {p r : PL} {σ : Store} (ha : σ[a]? = some (.dict (D p) ea)) (h : mvnegL p = some r) : ∃ v σ', callF P0 (m + 2) (Str.ofString "mvneg") [.obj a] σ = some (v, σ') ∧ FreshD σ r v σ' := by
  unfold mvnegL mapL at h
  split at h
  · rename_i l1
    apply call_run _ find_mvneg ok_mvneg
    · exact rfl
    · have key := fun (T : Tb) (d : Nat) (cx : Cx) (inner : Rho → Store → Option (Rho × Store)) (pp : Pos) (hs : _) => comp_PL (T := T) (d := d) (cx := cx) (inner := inner) (x := Str.ofString "powers") (pp := pp) (ifs := []) (n := a) (ep := ea) (fun acc ρ' σ' => ∃ ep o, ρ' = [(Str.ofString ".0", Option.none), (Str.ofString "powers", o)] ∧ Ext σ σ' ∧ σ'[σ.length]? = some (.dict (D acc) ep)) (σ := σ ++ [.dict [] 0]) l1 h ⟨0, none, rfl, .app, get_last⟩ (fun acc ρ σ' hr => by obtain ⟨ep, o, rfl, hx, hj⟩ := hr; exact hx a _ ha) hs
      apply R_retE
      apply X_dcomp
      · exact ⟨by decide +kernel, rfl⟩
      · apply R_name
        · exact E_name rfl rfl
        · exact iterV_obj ha
      · exact rfl
      · refine key _ _ _ _ _ ?_
        rintro acc k acc' ρ σ' hk hs ⟨ep, o, rfl, hx, hj⟩
        split at hs
        · rename_i c hc
          dsimp only at hs
          split at hs
          · rename_i hl
            cases hs
            have hg := O_get (hx a _ ha) hc
            have hn := rneg_spec (n := m) (a := c) (σ := σ')
            obtain ⟨ep', hset⟩ := setD_D (p := acc) (ep := ep) (k := k) (c := (0 - c.1, c.2))
            refine ⟨_, true, σ', rfl, I_nil, ?_⟩
            rw [if_pos rfl]
            refine ⟨_, σ'.set σ.length (.dict (D (plPut acc k (0 - c.1, c.2))) ep'), ?_, ep', some (qV k), rfl, hx.set (Nat.le_refl _), get_set hj⟩
            apply G_nil
            rw [← hset]
            apply M_dict
            · repeat' (first
    | exact E_int | exact E_str | exact E_none | exact E_bool
    | exact E_name rfl rfl
    | apply E_bin | apply E_neg | (apply E_sub; case hs => (intro _ _ _ _ h; cases h))
    | apply E_tup | apply E_list | exact L_nil | (apply L_cons; case hs => (intro _ _ h; cases h))
    | (apply E_bi; (case hb => exact rfl); (case hf => kernel_rfl); (case hg => exact ⟨rfl, rfl, of_decide_eq_true rfl⟩))
    | (apply E_call; (case hf => kernel_rfl); (case hg => exact ⟨rfl, rfl, of_decide_eq_true rfl⟩))
    | exact O_add | exact O_sub | apply O_mul | apply O_div | apply O_mod
    | (apply T_cmp; case hm => exact rfl) | apply T_not | apply T_bop
    | fail
    | assumption
    | fail
    | exact of_decide_eq_true rfl
    | exact rfl)
            · repeat' (first
    | exact E_int | exact E_str | exact E_none | exact E_bool
    | exact E_name rfl rfl
    | apply E_bin | apply E_neg | (apply E_sub; case hs => (intro _ _ _ _ h; cases h))
    | apply E_tup | apply E_list | exact L_nil | (apply L_cons; case hs => (intro _ _ h; cases h))
    | (apply E_bi; (case hb => exact rfl); (case hf => kernel_rfl); (case hg => exact ⟨rfl, rfl, of_decide_eq_true rfl⟩))
    | (apply E_call; (case hf => kernel_rfl); (case hg => exact ⟨rfl, rfl, of_decide_eq_true rfl⟩))
    | exact O_add | exact O_sub | apply O_mul | apply O_div | apply O_mod
    | (apply T_cmp; case hm => exact rfl) | apply T_not | apply T_bop
    | exact hn
    | assumption
    | exact hg
    | exact of_decide_eq_true rfl
    | exact rfl)
            · exact hj
            · exact rfl
            · rw [D_len]; exact hl
          · cases hs
        · cases hs
      · rintro ρ' σ' ⟨ep, o, rfl, hx, hj⟩
        exact ⟨_, .inl rfl, σ.length, ep, rfl, hx, hj, Nat.le_refl _⟩
  · first | exact no_some h | cases h
end Mine
namespace Mine
open PySem PyProof.Rows
noncomputable def mvsubL (p q : PL) : Option PL := match mvnegL q with
  | some r => mvaddL p r
  | none => none
theorem mvsub_spec {m a b ea eb : Nat} {p q r : PL} {σ : Store} (ha : σ[a]? = some (.dict (D p) ea)) (hb : σ[b]? = some (.dict (D q) eb)) (h : mvsubL p q = some r) : ∃ v σ', callF P0 (m + 6) (Str.ofString "mvsub") [.obj a, .obj b] σ = some (v, σ') ∧ FreshD σ r v σ' := by
  unfold mvsubL at h
  split at h
  · rename_i s hs
    refine elimD (mvneg_spec (m := m + 3) hb hs) fun σ1 j1 e1 c1 x1 g1 l1 => ?_
    refine elimD (mvadd_spec (m := m) (x1 a _ ha) g1 h) fun σ2 j2 e2 c2 x2 g2 l2 => ?_
    apply call_run _ find_mvsub ok_mvsub
    · exact rfl
    · apply R_ret
      · repeat' (first
    | exact E_int | exact E_str | exact E_none | exact E_bool
    | exact E_name rfl rfl
    | apply E_bin | apply E_neg | (apply E_sub; case hs => (intro _ _ _ _ h; cases h))
    | apply E_tup | apply E_list | exact L_nil | (apply L_cons; case hs => (intro _ _ h; cases h))
    | (apply E_bi; (case hb => exact rfl); (case hf => kernel_rfl); (case hg => exact ⟨rfl, rfl, of_decide_eq_true rfl⟩))
    | (apply E_call; (case hf => kernel_rfl); (case hg => exact ⟨rfl, rfl, of_decide_eq_true rfl⟩))
    | exact O_add | exact O_sub | apply O_mul | apply O_div | apply O_mod
    | (apply T_cmp; case hm => exact rfl) | apply T_not | apply T_bop
    | exact c2
    | assumption
    | exact c1
    | exact of_decide_eq_true rfl
    | exact rfl)
      exact ⟨_, .inl rfl, j2, e2, rfl, x1.trans x2, g2, Nat.le_trans x1.len l2⟩
  · first | exact no_some h | cases h
theorem mvshift_spec {m a ea : Nat} {p r : PL} {k q : Q2} {σ : Store} (ha : σ[a]? = some (.dict (D p) ea)) (h : mvshiftL p k q = some r) : ∃ v σ', callF P0 (m + 4) (Str.ofString "mvshift") [.obj a, qV k, qV q] σ = some (v, σ') ∧ FreshD σ r v σ' := by
  unfold mvshiftL at h
  split at h
  · first | exact no_some h | cases h
  rename_i h0
  have hd := dec_pair (decide_eq_false h0)
  unfold mapL at h
  split at h
  · rename_i l1
    apply call_run _ find_mvshift ok_mvshift
    · exact rfl
    · have key := fun (T : Tb) (d : Nat) (cx : Cx) (inner : Rho → Store → Option (Rho × Store)) (pp : Pos) (hs : _) => comp_PL (T := T) (d := d) (cx := cx) (inner := inner) (x := Str.ofString "one") (pp := pp) (ifs := []) (n := a) (ep := ea) (fun acc ρ' σ' => ∃ ep o, ρ' = [(Str.ofString ".0", Option.none), (Str.ofString "one", o)] ∧ Ext σ σ' ∧ σ'[σ.length]? = some (.dict (D acc) ep)) (σ := σ ++ [.dict [] 0]) l1 h ⟨0, none, rfl, .app, get_last⟩ (fun acc ρ σ' hr => by obtain ⟨ep, o, rfl, hx, hj⟩ := hr; exact hx a _ ha) hs
      apply R_ifF
      · repeat' (first
    | exact E_int | exact E_str | exact E_none | exact E_bool
    | exact E_name rfl rfl
    | apply E_bin | apply E_neg | (apply E_sub; case hs => (intro _ _ _ _ h; cases h))
    | apply E_tup | apply E_list | exact L_nil | (apply L_cons; case hs => (intro _ _ h; cases h))
    | (apply E_bi; (case hb => exact rfl); (case hf => kernel_rfl); (case hg => exact ⟨rfl, rfl, of_decide_eq_true rfl⟩))
    | (apply E_call; (case hf => kernel_rfl); (case hg => exact ⟨rfl, rfl, of_decide_eq_true rfl⟩))
    | exact O_add | exact O_sub | apply O_mul | apply O_div | apply O_mod
    | (apply T_cmp; case hm => exact rfl) | apply T_not | apply T_bop
    | fail
    | assumption
    | fail
    | exact of_decide_eq_true rfl
    | exact rfl)
      · exact X_s S_nil
      apply R_retE
      apply X_dcomp
      · exact ⟨by decide +kernel, rfl⟩
      · apply R_name
        · exact E_name rfl rfl
        · exact iterV_obj ha
      · exact rfl
      · refine key _ _ _ _ _ ?_
        rintro acc one acc' ρ σ' hk hs ⟨ep, o, rfl, hx, hj⟩
        split at hs
        · rename_i c hc
          split at hs
          · rename_i kc hkc
            dsimp only at hkc
            split at hkc
            · rename_i rr hrr
              cases hkc
              split at hs
              · rename_i hl
                cases hs
                have hp := pprod_spec (n := m + 2) (a := one) (b := k) (σ := σ')
                generalize hσ : σ' ++ [Cell.list [.int (one.1 + k.1), .int (one.2 + k.2)]] = σ2 at hp
                have x2 : Ext σ' σ2 := by rw [← hσ]; exact .app
                have hg := O_get (x2 a _ (hx a _ ha)) hc
                have hm := rmul_spec (n := m) (σ := σ2) hrr
                have hj2 := x2 _ _ hj
                obtain ⟨ep', hset⟩ := setD_D (p := acc) (ep := ep) (k := pprod one k) (c := rr)
                refine ⟨_, true, σ', rfl, I_nil, ?_⟩
                rw [if_pos rfl]
                refine ⟨_, σ2.set σ.length (.dict (D (plPut acc (pprod one k) rr)) ep'), ?_, ep', some (qV one), rfl, (hx.trans x2).set (Nat.le_refl _), get_set hj2⟩
                apply G_nil
                rw [← hset]
                apply M_dict
                · repeat' (first
    | exact E_int | exact E_str | exact E_none | exact E_bool
    | exact E_name rfl rfl
    | apply E_bin | apply E_neg | (apply E_sub; case hs => (intro _ _ _ _ h; cases h))
    | apply E_tup | apply E_list | exact L_nil | (apply L_cons; case hs => (intro _ _ h; cases h))
    | (apply E_bi; (case hb => exact rfl); (case hf => kernel_rfl); (case hg => exact ⟨rfl, rfl, of_decide_eq_true rfl⟩))
    | (apply E_call; (case hf => kernel_rfl); (case hg => exact ⟨rfl, rfl, of_decide_eq_true rfl⟩))
    | exact O_add | exact O_sub | apply O_mul | apply O_div | apply O_mod
    | (apply T_cmp; case hm => exact rfl) | apply T_not | apply T_bop
    | exact hp
    | assumption
    | fail
    | exact of_decide_eq_true rfl
    | exact rfl)
                · repeat' (first
    | exact E_int | exact E_str | exact E_none | exact E_bool
    | exact E_name rfl rfl
    | apply E_bin | apply E_neg | (apply E_sub; case hs => (intro _ _ _ _ h; cases h))
    | apply E_tup | apply E_list | exact L_nil | (apply L_cons; case hs => (intro _ _ h; cases h))
    | (apply E_bi; (case hb => exact rfl); (case hf => kernel_rfl); (case hg => exact ⟨rfl, rfl, of_decide_eq_true rfl⟩))
    | (apply E_call; (case hf => kernel_rfl); (case hg => exact ⟨rfl, rfl, of_decide_eq_true rfl⟩))
    | exact O_add | exact O_sub | apply O_mul | apply O_div | apply O_mod
    | (apply T_cmp; case hm => exact rfl) | apply T_not | apply T_bop
    | exact hm
    | assumption
    | exact hg
    | exact of_decide_eq_true rfl
    | exact rfl)
                · exact hj2
                · exact rfl
                · rw [D_len]; exact hl
              · cases hs
            · cases hkc
          · cases hs
        · cases hs
      · rintro ρ' σ' ⟨ep, o, rfl, hx, hj⟩
        exact ⟨_, .inl rfl, σ.length, ep, rfl, hx, hj, Nat.le_refl _⟩
  · first | exact no_some h | cases h
noncomputable def mvmulRow (p : PL) (kb cb : Q2) (acc : PL) : Option PL := foldF (fun acc k => match plGet p k with
  | some c => (match rmulL c cb with
    | some r => addT acc (pprod k kb) r
    | none => none)
  | none => none) acc (keys p)
noncomputable def mvmulL (p q : PL) : Option PL := if p.length < lim ∧ q.length < lim then foldF (fun acc k => match plGet q k with
  | some c => mvmulRow p k c acc
  | none => none) [] (keys q) else none
theorem mvmul_spec {m a b ea eb : Nat} {p q r : PL} {σ : Store} (ha : σ[a]? = some (.dict (D p) ea)) (hb : σ[b]? = some (.dict (D q) eb)) (h : mvmulL p q = some r) : ∃ v σ', callF P0 (m + 5) (Str.ofString "mvmul") [.obj a, .obj b] σ = some (v, σ') ∧ FreshD σ r v σ' := by
  unfold mvmulL at h
  split at h
  · rename_i hc
    obtain ⟨l1, l2⟩ := hc
    apply call_run _ find_mvmul ok_mvmul
    · exact rfl
    · apply R_asg
      · exact E_dict0
      · exact rfl
      · exact .inl rfl
      refine R_forPL (σ1 := σ ++ [.dict [] 0]) (p := q) (n := b) (ep := eb) (fun acc ρ' σ' => ∃ ep o o2, ρ' = [(Str.ofString "a", some (.obj a)), (Str.ofString "b", some (.obj b)), (Str.ofString "found", some (.obj σ.length)), (Str.ofString "powers", o), (Str.ofString "one", o2)] ∧ Ext σ σ' ∧ σ'[σ.length]? = some (.dict (D acc) ep)) ?_ l2 h ⟨0, none, none, rfl, .app, get_last⟩ ?_ ?_ ?_
      · apply R_name
        · exact E_name rfl rfl
        · exact iterV_obj (Ext.app b _ hb)
      · rintro acc ρ σ' ⟨ep, o, o2, rfl, hx, hj⟩
        exact hx b _ hb
      · rintro acc kb acc' ρ σ' hk hs ⟨ep, o, o2, rfl, hx, hj⟩
        split at hs
        · rename_i cb hcb
          unfold mvmulRow at hs
          refine ⟨_, rfl, B_in ?_⟩
          refine R_forPL (σ1 := σ') (p := p) (n := a) (ep := ea) (fun acc ρ' σ' => ∃ ep o2, ρ' = [(Str.ofString "a", some (.obj a)), (Str.ofString "b", some (.obj b)), (Str.ofString "found", some (.obj σ.length)), (Str.ofString "powers", some (qV kb)), (Str.ofString "one", o2)] ∧ Ext σ σ' ∧ σ'[σ.length]? = some (.dict (D acc) ep)) ?_ l1 hs ⟨ep, o2, rfl, hx, hj⟩ ?_ ?_ ?_
          · apply R_name
            · exact E_name rfl rfl
            · exact iterV_obj (hx a _ ha)
          · rintro acc ρ σ' ⟨ep, o2, rfl, hx, hj⟩
            exact hx a _ ha
          · rintro acc k acc' ρ σ' hk hs ⟨ep, o2, rfl, hx, hj⟩
            split at hs
            · rename_i c hc
              split at hs
              · rename_i rr hrr
                have hp := pprod_spec (n := m + 3) (a := k) (b := kb) (σ := σ')
                generalize hσ : σ' ++ [Cell.list [.int (k.1 + kb.1), .int (k.2 + kb.2)]] = σ2 at hp
                have x2 : Ext σ' σ2 := by rw [← hσ]; exact .app
                have hg := O_get (x2 a _ (hx a _ ha)) hc
                have hgb := O_get (x2 b _ (hx b _ hb)) hcb
                have hm := rmul_spec (n := m + 1) (σ := σ2) hrr
                obtain ⟨ep', had⟩ := add_spec (m := m) (x2 _ _ hj) hs
                refine ⟨_, rfl, B_in ?_⟩
                apply R_expr
                · repeat' (first
    | exact E_int | exact E_str | exact E_none | exact E_bool
    | exact E_name rfl rfl
    | apply E_bin | apply E_neg | (apply E_sub; case hs => (intro _ _ _ _ h; cases h))
    | apply E_tup | apply E_list | exact L_nil | (apply L_cons; case hs => (intro _ _ h; cases h))
    | (apply E_bi; (case hb => exact rfl); (case hf => kernel_rfl); (case hg => exact ⟨rfl, rfl, of_decide_eq_true rfl⟩))
    | (apply E_call; (case hf => kernel_rfl); (case hg => exact ⟨rfl, rfl, of_decide_eq_true rfl⟩))
    | exact O_add | exact O_sub | apply O_mul | apply O_div | apply O_mod
    | (apply T_cmp; case hm => exact rfl) | apply T_not | apply T_bop
    | exact hp | exact hm | exact had
    | assumption
    | exact hg | exact hgb
    | exact of_decide_eq_true rfl
    | exact rfl)
                apply R_nil
                exact ⟨.inl rfl, ep', _, rfl, (hx.trans x2).set (Nat.le_refl _), get_set (x2 _ _ hj)⟩
              · cases hs
            · cases hs
          · rintro ρ' σ' ⟨ep, o2, rfl, hx, hj⟩
            apply R_nil
            exact ⟨.inl rfl, ep, _, o2, rfl, hx, hj⟩
        · cases hs
      · rintro ρ' σ' ⟨ep, o, o2, rfl, hx, hj⟩
        apply R_ret
        · repeat' (first
    | exact E_int | exact E_str | exact E_none | exact E_bool
    | exact E_name rfl rfl
    | apply E_bin | apply E_neg | (apply E_sub; case hs => (intro _ _ _ _ h; cases h))
    | apply E_tup | apply E_list | exact L_nil | (apply L_cons; case hs => (intro _ _ h; cases h))
    | (apply E_bi; (case hb => exact rfl); (case hf => kernel_rfl); (case hg => exact ⟨rfl, rfl, of_decide_eq_true rfl⟩))
    | (apply E_call; (case hf => kernel_rfl); (case hg => exact ⟨rfl, rfl, of_decide_eq_true rfl⟩))
    | exact O_add | exact O_sub | apply O_mul | apply O_div | apply O_mod
    | (apply T_cmp; case hm => exact rfl) | apply T_not | apply T_bop
    | fail
    | assumption
    | fail
    | exact of_decide_eq_true rfl
    | exact rfl)
        exact ⟨_, .inl rfl, σ.length, ep, rfl, hx, hj, Nat.le_refl _⟩
  · first | exact no_some h | cases h
end Mine
namespace Mine
open PySem PyProof.Rows
noncomputable abbrev lexS : V := .str (Str.ofString "lex")
section
variable {σ : Store} {n i : Nat} {vs : List V} {v : V}
theorem O_idx {j : Int} (h : σ[n]? = some (.list vs)) (hv : at? vs j = some v) : getitem (.obj n) (.int j) σ = some v := by
  delta getitem; dsimp only; simp only [h, hv]
theorem next_list (h : σ[n]? = some (.list vs)) (hv : vs[i]? = some v) : nextI (.list n i) σ = some (some (v, .list n (i + 1))) := by
  delta nextI; dsimp only; simp only [h, hv]
theorem next_listE (h : σ[n]? = some (.list vs)) (hv : vs[i]? = none) : nextI (.list n i) σ = some none := by
  delta nextI; dsimp only; simp only [h, hv]
theorem next_enumL (h : σ[n]? = some (.list vs)) (hv : vs[i]? = some v) : nextI (.enumL n i) σ = some (some (.tup [.int i, v], .enumL n (i + 1))) := by
  delta nextI; dsimp only; simp only [h, hv]
theorem iterV_list (h : σ[n]? = some (.list vs)) : iterV (.obj n) σ = some (.list n 0) := by
  delta iterV; dsimp only; rw [h]
end
noncomputable def leadStep (acc : Option Q2) (k : Q2) : Option (Option Q2) := match acc with
  | none => some (some k)
  | some b => if lexLt (kL b) (kL k) = true then some (some k) else some (some b)
noncomputable def leadL (p : PL) : Option (Q2 × Q2) := if p.length < lim then (match foldF leadStep none (keys p) with
  | some (some k) => (match plGet p k with
    | some c => some (k, c)
    | none => none)
  | _ => none) else none
noncomputable def optV : Option Q2 → V
  | none => .none
  | some k => qV k
theorem mvlead_spec {m a ea : Nat} {p : PL} {k c : Q2} {σ : Store} (ha : σ[a]? = some (.dict (D p) ea)) (h : leadL p = some (k, c)) : callF P0 (m + 2) (Str.ofString "mvlead") [.obj a, lexS] σ = some (.tup [qV k, qV c], σ) := by
  unfold leadL at h
  split at h
  · rename_i l1
    split at h
    · rename_i k' hf
      split at h
      · rename_i c' hc
        cases h
        have hg := O_get ha hc
        have : ∃ v σ', callF P0 (m + 2) (Str.ofString "mvlead") [.obj a, lexS] σ = some (v, σ') ∧ (v = .tup [qV k, qV c] ∧ σ' = σ) := by
          apply call_run _ find_mvlead ok_mvlead
          · exact rfl
          · apply R_tupS
            · repeat' (first
    | exact E_int | exact E_str | exact E_none | exact E_bool
    | exact E_name rfl rfl
    | apply E_bin | apply E_neg | (apply E_sub; case hs => (intro _ _ _ _ h; cases h))
    | apply E_tup | apply E_list | exact L_nil | (apply L_cons; case hs => (intro _ _ h; cases h))
    | (apply E_bi; (case hb => exact rfl); (case hf => kernel_rfl); (case hg => exact ⟨rfl, rfl, of_decide_eq_true rfl⟩))
    | (apply E_call; (case hf => kernel_rfl); (case hg => exact ⟨rfl, rfl, of_decide_eq_true rfl⟩))
    | exact O_add | exact O_sub | apply O_mul | apply O_div | apply O_mod
    | (apply T_cmp; case hm => exact rfl) | apply T_not | apply T_bop
    | fail
    | assumption
    | fail
    | exact of_decide_eq_true rfl
    | exact rfl)
            · exact rfl
            · exact ⟨by decide +kernel, rfl, by decide +kernel⟩
            refine R_forPL (σ1 := σ) (p := p) (n := a) (ep := ea) (fun acc ρ' σ' => ∃ o o2, ρ' = [(Str.ofString "a", some (.obj a)), (Str.ofString "order", some lexS), (Str.ofString "best", some (optV acc)), (Str.ofString "highest", some (optV acc)), (Str.ofString "powers", o), (Str.ofString "place", o2)] ∧ σ' = σ) ?_ l1 hf ⟨none, none, rfl, rfl⟩ ?_ ?_ ?_
            · apply R_name
              · exact E_name rfl rfl
              · exact iterV_obj ha
            · rintro acc ρ σ' ⟨o, o2, rfl, rfl⟩
              exact ha
            · rintro acc kk acc' ρ σ' hk hs ⟨o, o2, rfl, rfl⟩
              have hord := order_spec (n := m) (v := qV kk) (σ := σ')
              refine ⟨_, rfl, B_in ?_⟩
              apply R_asg
              · repeat' (first
    | exact E_int | exact E_str | exact E_none | exact E_bool
    | exact E_name rfl rfl
    | apply E_bin | apply E_neg | (apply E_sub; case hs => (intro _ _ _ _ h; cases h))
    | apply E_tup | apply E_list | exact L_nil | (apply L_cons; case hs => (intro _ _ h; cases h))
    | (apply E_bi; (case hb => exact rfl); (case hf => kernel_rfl); (case hg => exact ⟨rfl, rfl, of_decide_eq_true rfl⟩))
    | (apply E_call; (case hf => kernel_rfl); (case hg => exact ⟨rfl, rfl, of_decide_eq_true rfl⟩))
    | exact O_add | exact O_sub | apply O_mul | apply O_div | apply O_mod
    | (apply T_cmp; case hm => exact rfl) | apply T_not | apply T_bop
    | exact hord
    | assumption
    | fail
    | exact of_decide_eq_true rfl
    | exact rfl)
              · exact rfl
              · exact .inl rfl
              unfold leadStep at hs
              split at hs
              · cases hs
                apply R_ifT
                · apply T_bop
                  apply B_orT
                  repeat' (first
    | exact E_int | exact E_str | exact E_none | exact E_bool
    | exact E_name rfl rfl
    | apply E_bin | apply E_neg | (apply E_sub; case hs => (intro _ _ _ _ h; cases h))
    | apply E_tup | apply E_list | exact L_nil | (apply L_cons; case hs => (intro _ _ h; cases h))
    | (apply E_bi; (case hb => exact rfl); (case hf => kernel_rfl); (case hg => exact ⟨rfl, rfl, of_decide_eq_true rfl⟩))
    | (apply E_call; (case hf => kernel_rfl); (case hg => exact ⟨rfl, rfl, of_decide_eq_true rfl⟩))
    | exact O_add | exact O_sub | apply O_mul | apply O_div | apply O_mod
    | (apply T_cmp; case hm => exact rfl) | apply T_not | apply T_bop
    | fail
    | assumption
    | fail
    | exact of_decide_eq_true rfl
    | exact rfl)
                · apply X_s
                  apply S_tup
                  · repeat' (first
    | exact E_int | exact E_str | exact E_none | exact E_bool
    | exact E_name rfl rfl
    | apply E_bin | apply E_neg | (apply E_sub; case hs => (intro _ _ _ _ h; cases h))
    | apply E_tup | apply E_list | exact L_nil | (apply L_cons; case hs => (intro _ _ h; cases h))
    | (apply E_bi; (case hb => exact rfl); (case hf => kernel_rfl); (case hg => exact ⟨rfl, rfl, of_decide_eq_true rfl⟩))
    | (apply E_call; (case hf => kernel_rfl); (case hg => exact ⟨rfl, rfl, of_decide_eq_true rfl⟩))
    | exact O_add | exact O_sub | apply O_mul | apply O_div | apply O_mod
    | (apply T_cmp; case hm => exact rfl) | apply T_not | apply T_bop
    | fail
    | assumption
    | fail
    | exact of_decide_eq_true rfl
    | exact rfl)
                  · exact rfl
                  · exact ⟨by decide +kernel, rfl, by decide +kernel⟩
                  · exact S_nil
                apply R_nil
                exact ⟨.inl rfl, _, _, rfl, rfl⟩
              · rename_i b
                split at hs
                · rename_i hlt
                  cases hs
                  apply R_ifT
                  · apply T_bop
                    apply B_orF
                    · repeat' (first
    | exact E_int | exact E_str | exact E_none | exact E_bool
    | exact E_name rfl rfl
    | apply E_bin | apply E_neg | (apply E_sub; case hs => (intro _ _ _ _ h; cases h))
    | apply E_tup | apply E_list | exact L_nil | (apply L_cons; case hs => (intro _ _ h; cases h))
    | (apply E_bi; (case hb => exact rfl); (case hf => kernel_rfl); (case hg => exact ⟨rfl, rfl, of_decide_eq_true rfl⟩))
    | (apply E_call; (case hf => kernel_rfl); (case hg => exact ⟨rfl, rfl, of_decide_eq_true rfl⟩))
    | exact O_add | exact O_sub | apply O_mul | apply O_div | apply O_mod
    | (apply T_cmp; case hm => exact rfl) | apply T_not | apply T_bop
    | fail
    | assumption
    | fail
    | exact of_decide_eq_true rfl
    | exact rfl)
                    · apply B_orT
                      apply T_cmp
                      · exact rfl
                      · repeat' (first
    | exact E_int | exact E_str | exact E_none | exact E_bool
    | exact E_name rfl rfl
    | apply E_bin | apply E_neg | (apply E_sub; case hs => (intro _ _ _ _ h; cases h))
    | apply E_tup | apply E_list | exact L_nil | (apply L_cons; case hs => (intro _ _ h; cases h))
    | (apply E_bi; (case hb => exact rfl); (case hf => kernel_rfl); (case hg => exact ⟨rfl, rfl, of_decide_eq_true rfl⟩))
    | (apply E_call; (case hf => kernel_rfl); (case hg => exact ⟨rfl, rfl, of_decide_eq_true rfl⟩))
    | exact O_add | exact O_sub | apply O_mul | apply O_div | apply O_mod
    | (apply T_cmp; case hm => exact rfl) | apply T_not | apply T_bop
    | fail
    | assumption
    | fail
    | exact of_decide_eq_true rfl
    | exact rfl)
                      · repeat' (first
    | exact E_int | exact E_str | exact E_none | exact E_bool
    | exact E_name rfl rfl
    | apply E_bin | apply E_neg | (apply E_sub; case hs => (intro _ _ _ _ h; cases h))
    | apply E_tup | apply E_list | exact L_nil | (apply L_cons; case hs => (intro _ _ h; cases h))
    | (apply E_bi; (case hb => exact rfl); (case hf => kernel_rfl); (case hg => exact ⟨rfl, rfl, of_decide_eq_true rfl⟩))
    | (apply E_call; (case hf => kernel_rfl); (case hg => exact ⟨rfl, rfl, of_decide_eq_true rfl⟩))
    | exact O_add | exact O_sub | apply O_mul | apply O_div | apply O_mod
    | (apply T_cmp; case hm => exact rfl) | apply T_not | apply T_bop
    | fail
    | assumption
    | fail
    | exact of_decide_eq_true rfl
    | exact rfl)
                      · exact rfl
                      · exact hlt
                  · apply X_s
                    apply S_tup
                    · repeat' (first
    | exact E_int | exact E_str | exact E_none | exact E_bool
    | exact E_name rfl rfl
    | apply E_bin | apply E_neg | (apply E_sub; case hs => (intro _ _ _ _ h; cases h))
    | apply E_tup | apply E_list | exact L_nil | (apply L_cons; case hs => (intro _ _ h; cases h))
    | (apply E_bi; (case hb => exact rfl); (case hf => kernel_rfl); (case hg => exact ⟨rfl, rfl, of_decide_eq_true rfl⟩))
    | (apply E_call; (case hf => kernel_rfl); (case hg => exact ⟨rfl, rfl, of_decide_eq_true rfl⟩))
    | exact O_add | exact O_sub | apply O_mul | apply O_div | apply O_mod
    | (apply T_cmp; case hm => exact rfl) | apply T_not | apply T_bop
    | fail
    | assumption
    | fail
    | exact of_decide_eq_true rfl
    | exact rfl)
                    · exact rfl
                    · exact ⟨by decide +kernel, rfl, by decide +kernel⟩
                    · exact S_nil
                  apply R_nil
                  exact ⟨.inl rfl, _, _, rfl, rfl⟩
                · rename_i hlt
                  have hlt' : lexLt (kL b) (kL kk) = false := by simpa using hlt
                  cases hs
                  apply R_ifF
                  · apply T_bop
                    apply B_orF
                    · repeat' (first
    | exact E_int | exact E_str | exact E_none | exact E_bool
    | exact E_name rfl rfl
    | apply E_bin | apply E_neg | (apply E_sub; case hs => (intro _ _ _ _ h; cases h))
    | apply E_tup | apply E_list | exact L_nil | (apply L_cons; case hs => (intro _ _ h; cases h))
    | (apply E_bi; (case hb => exact rfl); (case hf => kernel_rfl); (case hg => exact ⟨rfl, rfl, of_decide_eq_true rfl⟩))
    | (apply E_call; (case hf => kernel_rfl); (case hg => exact ⟨rfl, rfl, of_decide_eq_true rfl⟩))
    | exact O_add | exact O_sub | apply O_mul | apply O_div | apply O_mod
    | (apply T_cmp; case hm => exact rfl) | apply T_not | apply T_bop
    | fail
    | assumption
    | fail
    | exact of_decide_eq_true rfl
    | exact rfl)
                    · apply B_orF
                      · apply T_cmp
                        · exact rfl
                        · repeat' (first
    | exact E_int | exact E_str | exact E_none | exact E_bool
    | exact E_name rfl rfl
    | apply E_bin | apply E_neg | (apply E_sub; case hs => (intro _ _ _ _ h; cases h))
    | apply E_tup | apply E_list | exact L_nil | (apply L_cons; case hs => (intro _ _ h; cases h))
    | (apply E_bi; (case hb => exact rfl); (case hf => kernel_rfl); (case hg => exact ⟨rfl, rfl, of_decide_eq_true rfl⟩))
    | (apply E_call; (case hf => kernel_rfl); (case hg => exact ⟨rfl, rfl, of_decide_eq_true rfl⟩))
    | exact O_add | exact O_sub | apply O_mul | apply O_div | apply O_mod
    | (apply T_cmp; case hm => exact rfl) | apply T_not | apply T_bop
    | fail
    | assumption
    | fail
    | exact of_decide_eq_true rfl
    | exact rfl)
                        · repeat' (first
    | exact E_int | exact E_str | exact E_none | exact E_bool
    | exact E_name rfl rfl
    | apply E_bin | apply E_neg | (apply E_sub; case hs => (intro _ _ _ _ h; cases h))
    | apply E_tup | apply E_list | exact L_nil | (apply L_cons; case hs => (intro _ _ h; cases h))
    | (apply E_bi; (case hb => exact rfl); (case hf => kernel_rfl); (case hg => exact ⟨rfl, rfl, of_decide_eq_true rfl⟩))
    | (apply E_call; (case hf => kernel_rfl); (case hg => exact ⟨rfl, rfl, of_decide_eq_true rfl⟩))
    | exact O_add | exact O_sub | apply O_mul | apply O_div | apply O_mod
    | (apply T_cmp; case hm => exact rfl) | apply T_not | apply T_bop
    | fail
    | assumption
    | fail
    | exact of_decide_eq_true rfl
    | exact rfl)
                        · exact rfl
                        · exact hlt'
                      · exact B_nilO
                  · exact X_s S_nil
                  apply R_nil
                  exact ⟨.inl rfl, _, _, rfl, rfl⟩
            · rintro ρ' σ' ⟨o, o2, rfl, rfl⟩
              apply R_ret
              · apply E_ifF
                · repeat' (first
    | exact E_int | exact E_str | exact E_none | exact E_bool
    | exact E_name rfl rfl
    | apply E_bin | apply E_neg | (apply E_sub; case hs => (intro _ _ _ _ h; cases h))
    | apply E_tup | apply E_list | exact L_nil | (apply L_cons; case hs => (intro _ _ h; cases h))
    | (apply E_bi; (case hb => exact rfl); (case hf => kernel_rfl); (case hg => exact ⟨rfl, rfl, of_decide_eq_true rfl⟩))
    | (apply E_call; (case hf => kernel_rfl); (case hg => exact ⟨rfl, rfl, of_decide_eq_true rfl⟩))
    | exact O_add | exact O_sub | apply O_mul | apply O_div | apply O_mod
    | (apply T_cmp; case hm => exact rfl) | apply T_not | apply T_bop
    | fail
    | assumption
    | fail
    | exact of_decide_eq_true rfl
    | exact rfl)
                · repeat' (first
    | exact E_int | exact E_str | exact E_none | exact E_bool
    | exact E_name rfl rfl
    | apply E_bin | apply E_neg | (apply E_sub; case hs => (intro _ _ _ _ h; cases h))
    | apply E_tup | apply E_list | exact L_nil | (apply L_cons; case hs => (intro _ _ h; cases h))
    | (apply E_bi; (case hb => exact rfl); (case hf => kernel_rfl); (case hg => exact ⟨rfl, rfl, of_decide_eq_true rfl⟩))
    | (apply E_call; (case hf => kernel_rfl); (case hg => exact ⟨rfl, rfl, of_decide_eq_true rfl⟩))
    | exact O_add | exact O_sub | apply O_mul | apply O_div | apply O_mod
    | (apply T_cmp; case hm => exact rfl) | apply T_not | apply T_bop
    | fail
    | assumption
    | exact hg
    | exact of_decide_eq_true rfl
    | exact rfl)
              exact ⟨_, .inl rfl, rfl, rfl⟩
        obtain ⟨v, σ', h1, rfl, rfl⟩ := this
        exact h1
      · first | exact no_some h | cases h
    · first | exact no_some h | cases h
  · first | exact no_some h | cases h
noncomputable def atStep (p : PL) (vx vy : Q2) (acc : Q2) (k : Q2) : Option Q2 := match plGet p k with
  | some c => (match rpowL vx k.1 with
    | some u => (match rmulL c u with
      | some c1 => (match rpowL vy k.2 with
        | some w => (match rmulL c1 w with
          | some c2 => raddL acc c2
          | none => none)
        | none => none)
      | none => none)
    | none => none)
  | none => none
noncomputable def mvatL (p : PL) (vx vy : Q2) : Option Q2 := if p.length < lim then foldF (atStep p vx vy) (0, 1) (keys p) else none
theorem mvat_spec {m a ea vn : Nat} {p : PL} {vx vy q : Q2} {σ : Store} (ha : σ[a]? = some (.dict (D p) ea)) (hv : σ[vn]? = some (.list [qV vx, qV vy])) (h : mvatL p vx vy = some q) : callF P0 (m + 5) (Str.ofString "mvat") [.obj a, .obj vn] σ = some (qV q, σ) := by
  unfold mvatL at h
  split at h
  · rename_i l1
    have : ∃ v σ', callF P0 (m + 5) (Str.ofString "mvat") [.obj a, .obj vn] σ = some (v, σ') ∧ (v = qV q ∧ σ' = σ) := by
      have hx0 : getitem (.obj vn) (.int ((0 : Nat) : Int)) σ = some (qV vx) := O_idx hv rfl
      have hx1 : getitem (.obj vn) (.int ((1 : Nat) : Int)) σ = some (qV vy) := O_idx hv rfl
      apply call_run _ find_mvat ok_mvat
      · exact rfl
      · apply R_asg
        · repeat' (first
    | exact E_int | exact E_str | exact E_none | exact E_bool
    | exact E_name rfl rfl
    | apply E_bin | apply E_neg | (apply E_sub; case hs => (intro _ _ _ _ h; cases h))
    | apply E_tup | apply E_list | exact L_nil | (apply L_cons; case hs => (intro _ _ h; cases h))
    | (apply E_bi; (case hb => exact rfl); (case hf => kernel_rfl); (case hg => exact ⟨rfl, rfl, of_decide_eq_true rfl⟩))
    | (apply E_call; (case hf => kernel_rfl); (case hg => exact ⟨rfl, rfl, of_decide_eq_true rfl⟩))
    | exact O_add | exact O_sub | apply O_mul | apply O_div | apply O_mod
    | (apply T_cmp; case hm => exact rfl) | apply T_not | apply T_bop
    | fail
    | assumption
    | fail
    | exact of_decide_eq_true rfl
    | exact rfl)
        · exact rfl
        · exact .inl rfl
        refine R_forPL (σ1 := σ) (p := p) (n := a) (ep := ea) (fun acc ρ' σ' => ∃ o o2 o3 o4, ρ' = [(Str.ofString "a", some (.obj a)), (Str.ofString "values", some (.obj vn)), (Str.ofString "found", some (qV acc)), (Str.ofString "powers", o), (Str.ofString "product", o2), (Str.ofString "at", o3), (Str.ofString "many", o4)] ∧ σ' = σ) ?_ l1 h ⟨none, none, none, none, rfl, rfl⟩ ?_ ?_ ?_
        · apply R_name
          · exact E_name rfl rfl
          · exact iterV_obj ha
        · rintro acc ρ σ' ⟨o, o2, o3, o4, rfl, rfl⟩
          exact ha
        · rintro acc k acc' ρ σ' hk hs ⟨o, o2, o3, o4, rfl, rfl⟩
          unfold atStep at hs
          split at hs
          · rename_i c hc
            split at hs
            · rename_i u hu
              split at hs
              · rename_i c1 hc1
                split at hs
                · rename_i w hw
                  split at hs
                  · rename_i c2 hc2
                    have hg := O_get ha hc
                    have k1 := rpowL_spec (n := m) (σ := σ') hu
                    have k2 := rmul_spec (n := m + 1) (σ := σ') hc1
                    have k3 := rpowL_spec (n := m) (σ := σ') hw
                    have k4 := rmul_spec (n := m + 1) (σ := σ') hc2
                    have k5 := radd_spec (n := m + 1) (σ := σ') hs
                    refine ⟨_, rfl, B_in ?_⟩
                    apply R_asg
                    · repeat' (first
    | exact E_int | exact E_str | exact E_none | exact E_bool
    | exact E_name rfl rfl
    | apply E_bin | apply E_neg | (apply E_sub; case hs => (intro _ _ _ _ h; cases h))
    | apply E_tup | apply E_list | exact L_nil | (apply L_cons; case hs => (intro _ _ h; cases h))
    | (apply E_bi; (case hb => exact rfl); (case hf => kernel_rfl); (case hg => exact ⟨rfl, rfl, of_decide_eq_true rfl⟩))
    | (apply E_call; (case hf => kernel_rfl); (case hg => exact ⟨rfl, rfl, of_decide_eq_true rfl⟩))
    | exact O_add | exact O_sub | apply O_mul | apply O_div | apply O_mod
    | (apply T_cmp; case hm => exact rfl) | apply T_not | apply T_bop
    | fail
    | assumption
    | exact hg
    | exact of_decide_eq_true rfl
    | exact rfl)
                    · exact rfl
                    · exact .inl rfl
                    apply R_for
                    · apply R_enum
                      · exact rfl
                      · exact rfl
                      · repeat' (first
    | exact E_int | exact E_str | exact E_none | exact E_bool
    | exact E_name rfl rfl
    | apply E_bin | apply E_neg | (apply E_sub; case hs => (intro _ _ _ _ h; cases h))
    | apply E_tup | apply E_list | exact L_nil | (apply L_cons; case hs => (intro _ _ h; cases h))
    | (apply E_bi; (case hb => exact rfl); (case hf => kernel_rfl); (case hg => exact ⟨rfl, rfl, of_decide_eq_true rfl⟩))
    | (apply E_call; (case hf => kernel_rfl); (case hg => exact ⟨rfl, rfl, of_decide_eq_true rfl⟩))
    | exact O_add | exact O_sub | apply O_mul | apply O_div | apply O_mod
    | (apply T_cmp; case hm => exact rfl) | apply T_not | apply T_bop
    | fail
    | assumption
    | fail
    | exact of_decide_eq_true rfl
    | exact rfl)
                    · apply F_item
                      · exact rfl
                      · exact rfl
                      · exact rfl
                      · exact rfl
                      · apply X_s
                        apply S_asg
                        · repeat' (first
    | exact E_int | exact E_str | exact E_none | exact E_bool
    | exact E_name rfl rfl
    | apply E_bin | apply E_neg | (apply E_sub; case hs => (intro _ _ _ _ h; cases h))
    | apply E_tup | apply E_list | exact L_nil | (apply L_cons; case hs => (intro _ _ h; cases h))
    | (apply E_bi; (case hb => exact rfl); (case hf => kernel_rfl); (case hg => exact ⟨rfl, rfl, of_decide_eq_true rfl⟩))
    | (apply E_call; (case hf => kernel_rfl); (case hg => exact ⟨rfl, rfl, of_decide_eq_true rfl⟩))
    | exact O_add | exact O_sub | apply O_mul | apply O_div | apply O_mod
    | (apply T_cmp; case hm => exact rfl) | apply T_not | apply T_bop
    | exact k1 | exact k2 | exact k3 | exact k4 | exact k5
    | assumption
    | exact hx0 | exact hx1
    | exact of_decide_eq_true rfl
    | exact rfl)
                        · exact rfl
                        · exact .inl rfl
                        · exact S_nil
                      · exact .inl rfl
                      apply F_item
                      · exact rfl
                      · exact rfl
                      · exact rfl
                      · exact rfl
                      · apply X_s
                        apply S_asg
                        · repeat' (first
    | exact E_int | exact E_str | exact E_none | exact E_bool
    | exact E_name rfl rfl
    | apply E_bin | apply E_neg | (apply E_sub; case hs => (intro _ _ _ _ h; cases h))
    | apply E_tup | apply E_list | exact L_nil | (apply L_cons; case hs => (intro _ _ h; cases h))
    | (apply E_bi; (case hb => exact rfl); (case hf => kernel_rfl); (case hg => exact ⟨rfl, rfl, of_decide_eq_true rfl⟩))
    | (apply E_call; (case hf => kernel_rfl); (case hg => exact ⟨rfl, rfl, of_decide_eq_true rfl⟩))
    | exact O_add | exact O_sub | apply O_mul | apply O_div | apply O_mod
    | (apply T_cmp; case hm => exact rfl) | apply T_not | apply T_bop
    | exact k1 | exact k2 | exact k3 | exact k4 | exact k5
    | assumption
    | exact hx0 | exact hx1
    | exact of_decide_eq_true rfl
    | exact rfl)
                        · exact rfl
                        · exact .inl rfl
                        · exact S_nil
                      · exact .inl rfl
                      apply F_end
                      · exact rfl
                      · exact rfl
                      · exact rfl
                    apply R_asg
                    · repeat' (first
    | exact E_int | exact E_str | exact E_none | exact E_bool
    | exact E_name rfl rfl
    | apply E_bin | apply E_neg | (apply E_sub; case hs => (intro _ _ _ _ h; cases h))
    | apply E_tup | apply E_list | exact L_nil | (apply L_cons; case hs => (intro _ _ h; cases h))
    | (apply E_bi; (case hb => exact rfl); (case hf => kernel_rfl); (case hg => exact ⟨rfl, rfl, of_decide_eq_true rfl⟩))
    | (apply E_call; (case hf => kernel_rfl); (case hg => exact ⟨rfl, rfl, of_decide_eq_true rfl⟩))
    | exact O_add | exact O_sub | apply O_mul | apply O_div | apply O_mod
    | (apply T_cmp; case hm => exact rfl) | apply T_not | apply T_bop
    | exact k1 | exact k2 | exact k3 | exact k4 | exact k5
    | assumption
    | exact hx0 | exact hx1
    | exact of_decide_eq_true rfl
    | exact rfl)
                    · exact rfl
                    · exact .inl rfl
                    apply R_nil
                    exact ⟨.inl rfl, _, _, _, _, rfl, rfl⟩
                  · cases hs
                · cases hs
              · cases hs
            · cases hs
          · cases hs
        · rintro ρ' σ' ⟨o, o2, o3, o4, rfl, rfl⟩
          apply R_ret
          · repeat' (first
    | exact E_int | exact E_str | exact E_none | exact E_bool
    | exact E_name rfl rfl
    | apply E_bin | apply E_neg | (apply E_sub; case hs => (intro _ _ _ _ h; cases h))
    | apply E_tup | apply E_list | exact L_nil | (apply L_cons; case hs => (intro _ _ h; cases h))
    | (apply E_bi; (case hb => exact rfl); (case hf => kernel_rfl); (case hg => exact ⟨rfl, rfl, of_decide_eq_true rfl⟩))
    | (apply E_call; (case hf => kernel_rfl); (case hg => exact ⟨rfl, rfl, of_decide_eq_true rfl⟩))
    | exact O_add | exact O_sub | apply O_mul | apply O_div | apply O_mod
    | (apply T_cmp; case hm => exact rfl) | apply T_not | apply T_bop
    | fail
    | assumption
    | fail
    | exact of_decide_eq_true rfl
    | exact rfl)
          exact ⟨_, .inl rfl, rfl, rfl⟩
    obtain ⟨v, σ', h1, rfl, rfl⟩ := this
    exact h1
  · first | exact no_some h | cases h
theorem first_spec {m l : Nat} {k kb : Q2} {cv : V} {σ : Store} (hl : σ[l]? = some (.list [.tup [qV kb, cv]])) (h1 : kb.1 ≤ k.1) (h2 : kb.2 ≤ k.2) : callF P0 (m + 2) (Str.ofString "first_divisor") [qV k, .obj l] σ = some (.int 0, σ) := by
  have hp := pdiv_spec (n := m) (σ := σ) h1 h2
  apply call_in find_first_divisor ok_first_divisor
  · exact rfl
  · apply S_forr
    · apply R_enumL
      · exact rfl
      · exact rfl
      · repeat' (first
    | exact E_int | exact E_str | exact E_none | exact E_bool
    | exact E_name rfl rfl
    | apply E_bin | apply E_neg | (apply E_sub; case hs => (intro _ _ _ _ h; cases h))
    | apply E_tup | apply E_list | exact L_nil | (apply L_cons; case hs => (intro _ _ h; cases h))
    | (apply E_bi; (case hb => exact rfl); (case hf => kernel_rfl); (case hg => exact ⟨rfl, rfl, of_decide_eq_true rfl⟩))
    | (apply E_call; (case hf => kernel_rfl); (case hg => exact ⟨rfl, rfl, of_decide_eq_true rfl⟩))
    | exact O_add | exact O_sub | apply O_mul | apply O_div | apply O_mod
    | (apply T_cmp; case hm => exact rfl) | apply T_not | apply T_bop
    | fail
    | assumption
    | fail
    | exact of_decide_eq_true rfl
    | exact rfl)
      · exact hl
    · apply F_ret
      · exact rfl
      · exact rfl
      · exact next_enumL hl rfl
      · exact rfl
      · apply X_s
        apply S_ifTr
        · apply T_bop
          apply B_andT
          · repeat' (first
    | exact E_int | exact E_str | exact E_none | exact E_bool
    | exact E_name rfl rfl
    | apply E_bin | apply E_neg | (apply E_sub; case hs => (intro _ _ _ _ h; cases h))
    | apply E_tup | apply E_list | exact L_nil | (apply L_cons; case hs => (intro _ _ h; cases h))
    | (apply E_bi; (case hb => exact rfl); (case hf => kernel_rfl); (case hg => exact ⟨rfl, rfl, of_decide_eq_true rfl⟩))
    | (apply E_call; (case hf => kernel_rfl); (case hg => exact ⟨rfl, rfl, of_decide_eq_true rfl⟩))
    | exact O_add | exact O_sub | apply O_mul | apply O_div | apply O_mod
    | (apply T_cmp; case hm => exact rfl) | apply T_not | apply T_bop
    | fail
    | assumption
    | fail
    | exact of_decide_eq_true rfl
    | exact rfl)
          · apply B_andT
            · apply T_call
              repeat' (first
    | exact E_int | exact E_str | exact E_none | exact E_bool
    | exact E_name rfl rfl
    | apply E_bin | apply E_neg | (apply E_sub; case hs => (intro _ _ _ _ h; cases h))
    | apply E_tup | apply E_list | exact L_nil | (apply L_cons; case hs => (intro _ _ h; cases h))
    | (apply E_bi; (case hb => exact rfl); (case hf => kernel_rfl); (case hg => exact ⟨rfl, rfl, of_decide_eq_true rfl⟩))
    | (apply E_call; (case hf => kernel_rfl); (case hg => exact ⟨rfl, rfl, of_decide_eq_true rfl⟩))
    | exact O_add | exact O_sub | apply O_mul | apply O_div | apply O_mod
    | (apply T_cmp; case hm => exact rfl) | apply T_not | apply T_bop
    | exact hp
    | assumption
    | fail
    | exact of_decide_eq_true rfl
    | exact rfl)
            · exact B_nilA
        · apply X_s
          apply S_ret
          repeat' (first
    | exact E_int | exact E_str | exact E_none | exact E_bool
    | exact E_name rfl rfl
    | apply E_bin | apply E_neg | (apply E_sub; case hs => (intro _ _ _ _ h; cases h))
    | apply E_tup | apply E_list | exact L_nil | (apply L_cons; case hs => (intro _ _ h; cases h))
    | (apply E_bi; (case hb => exact rfl); (case hf => kernel_rfl); (case hg => exact ⟨rfl, rfl, of_decide_eq_true rfl⟩))
    | (apply E_call; (case hf => kernel_rfl); (case hg => exact ⟨rfl, rfl, of_decide_eq_true rfl⟩))
    | exact O_add | exact O_sub | apply O_mul | apply O_div | apply O_mod
    | (apply T_cmp; case hm => exact rfl) | apply T_not | apply T_bop
    | fail
    | assumption
    | fail
    | exact of_decide_eq_true rfl
    | exact rfl)
  · exact .inl rfl
end Mine
namespace Mine
open PySem PyProof.Rows
section
variable {T : Tb} {d : Nat} {cx : Cx} {ρ ρ1 : Rho} {σ σ1 σ2 : Store} {Q : Fl → Rho → Store → Prop} {x f : Str} {q p pp : Pos} {e e1 e2 : Expr} {r : List Stmt} {K : V → Store → Prop} {a b v : V}
theorem X_of (h : (ev T d).e cx e ρ σ = some (v, σ1)) (k : K v σ1) : Xp T d cx e ρ σ K := ⟨v, σ1, h, k⟩
theorem R_asgE (hc : isComp e = false ∨ compBound cx x p e = true) (h : Xp T d cx e ρ σ fun v σ1 => ∃ ρ1, rset ρ x v = some ρ1 ∧ Run T d cx r ρ1 σ1 Q) : Run T d cx (.Assign [.Name x p] e q :: r) ρ σ Q := by
  obtain ⟨v, σ1, h1, ρ1, h2, h3⟩ := h
  exact R_asg h1 h2 hc h3
theorem X_bi1 {bi : Bi} (hs : ∀ a b, e ≠ .Starred a b) (hg : cx.nm.lookup f = some .globalImplicit ∧ (f == Str.ofString "__debug__") = false ∧ [e].length < 20) (hf : T.isFn f = false) (hb : biOf f = some bi) (h : Xp T d cx e ρ σ fun a σ1 => ∃ v σ2, biCall bi [a] σ1 = some (v, σ2) ∧ K v σ2) : Xp T (d + 1) cx (.Call (.Name f p) [e] [] q) ρ σ K := by
  obtain ⟨a, σ1, h1, v, σ2, h2, h3⟩ := h
  exact ⟨v, σ2, E_bi hg hf hb (L_cons hs h1 L_nil) h2, h3⟩
theorem X_bin {op : Operator} (h1 : (ev T d).e cx e1 ρ σ = some (a, σ1)) (h : Xp T d cx e2 ρ σ1 fun b σ2 => ∃ v σ3, binop op a b σ2 = some (v, σ3) ∧ K v σ3) : Xp T (d + 1) cx (.BinOp e1 op e2 p) ρ σ K := by
  obtain ⟨b, σ2, h2, v, σ3, h3, h4⟩ := h
  exact ⟨v, σ3, E_bin h1 h2 h3, h4⟩
theorem G_cons {emit : Rho → Store → Option Store} {g : Comprehension} {gs : List Comprehension} {it : It} {R : Option (Rho × Store)} (hz : g.is_async = 0) (hi : iterE T (ev T d) cx g.iter ρ σ = some (it, σ1)) (h : compL (ev T d) cx (compGs T (ev T d) cx emit gs) g.target g.ifs bud it ρ σ1 = R) : compGs T (ev T d) cx emit (g :: gs) ρ σ = R := by
  unfold compGs
  rw [if_pos hz, hi]; exact h
theorem O_ladd {n m : Nat} {xs ys : List V} (h1 : σ[n]? = some (.list xs)) (h2 : σ[m]? = some (.list ys)) (hl : xs.length + ys.length < lim) : binop .Add (.obj n) (.obj m) σ = some (.obj σ.length, σ ++ [.list (xs ++ ys)]) := by
  delta binop; dsimp only; simp only [h1, h2]
  rw [if_pos hl]
theorem O_max {n : Nat} {vs : List V} {y : Int} {r : List Int} (h1 : σ[n]? = some (.list vs)) (h2 : intsOf vs = some (y :: r)) : biCall .max [.obj n] σ = some (.int (maxL y r), σ) := by
  delta biCall; dsimp only; simp only [h1, h2]
theorem O_len {n ep : Nat} {pl : PL} (h : σ[n]? = some (.dict (D pl) ep)) (hl : pl.length < lim) : biCall .len [.obj n] σ = some (.int pl.length, σ) := by
  delta biCall; dsimp only; simp only [h]
  rw [D_len]
  exact if_pos hl
theorem O_any2 : biCall .any [.obj σ.length] (σ ++ [.list [.bool false, .bool false]]) = some (.bool false, σ ++ [.list [.bool false, .bool false]]) := by
  delta biCall; dsimp only
  rw [get_last]
  rfl
theorem intsOf_map : ∀ {l : List Int}, intsOf (l.map V.int) = some l
  | [] => rfl
  | i :: r => by
    show (match intsOf (r.map V.int) with | some l => some (i :: l) | none => none) = _
    rw [intsOf_map]
end
noncomputable abbrev DS := PL × PL × Int
noncomputable def divStep (kb cb : Q2) (B : PL) (s : DS) : Option (Option DS) := if s.1.length < lim then (if s.1.isEmpty = true then some none else (match leadL s.1 with
  | some (k, c) => if (s.2.2 + s.1.length ≤ 3000000 ∧ mx (absI c.1) c.2 < 2 ^ 64) ∧ (k.1 ≤ 20000 ∧ k.2 ≤ 20000) ∧ kb.1 ≤ k.1 ∧ kb.2 ≤ k.2 then (match rdivL c cb with
    | some fac => (match addT s.2.1 (pquot k kb) fac with
      | some quot => (match mvshiftL B (pquot k kb) fac with
        | some sh => (match mvsubL s.1 sh with
          | some left => some (some (left, quot, s.2.2 + s.1.length))
          | none => none)
        | none => none)
      | none => none)
    | none => none) else none
  | none => none)) else none
noncomputable def divL (F B : PL) : Option PL := if F.length < 4000 ∧ B.length < lim ∧ apart (F.map fun e => hashK (kL e.1)) = true then (match leadL B with
  | some (kb, cb) => (match iterF (divStep kb cb B) 1000 (F, [], 0) with
    | some s => some s.2.1
    | none => none)
  | none => none) else none
noncomputable def flatS (acc : List Int) (k : Q2) : Option (List Int) := if acc.length + 2 < lim then some (acc ++ [k.1, k.2]) else none
theorem flat_fold : ∀ {ks : List Q2} {acc : List Int}, acc.length + 2 * ks.length < 9000 → ∃ l, foldF flatS acc ks = some l ∧ l.length = acc.length + 2 * ks.length
  | [], acc, _ => ⟨acc, rfl, by simp⟩
  | k :: r, acc, h => by
    have h' : acc.length + 2 * (r.length + 1) < 9000 := by simpa using h
    obtain ⟨l, h1, h2⟩ := flat_fold (ks := r) (acc := acc ++ [k.1, k.2]) (by simp; exact ar167 h')
    refine ⟨l, ?_, by rw [h2]; simp; exact ar168⟩
    unfold foldF flatS
    rw [if_pos (by unfold lim; exact ar169 h)]
    exact h1
inductive DivOut (σ : Store) (quot : PL) (v : V) (σ' : Store) : Prop
  | mk (qn dn rn e1 e3 : Nat) : v = .tup [.obj qn, .obj rn] → Ext σ σ' → σ'[qn]? = some (.list [.obj dn]) → σ'[dn]? = some (.dict (D quot) e1) → σ'[rn]? = some (.dict (D []) e3) → σ.length ≤ dn → DivOut σ quot v σ'
inductive DivRel (σ : Store) (fn sn al bl cl dn : Nat) (M : Int) (kb cb : Q2) (s : DS) (ρ' : Rho) (σ' : Store) : Prop
  | mk (l e1 e2 e3 : Nat) (oP oR oA oS oF : Option V) : ρ' = [(Str.ofString "f", some (.obj fn)), (Str.ofString "some", some (.obj sn)), (Str.ofString "order", some lexS), (Str.ofString "leads", some (.obj cl)), (Str.ofString "quotients", some (.obj al)), (Str.ofString "rest", some (.obj bl)), (Str.ofString "left", some (.obj l)), (Str.ofString "work", some (.int s.2.2)), (Str.ofString "powers", oP), (Str.ofString "most", some (.int M)), (Str.ofString "rational", oR), (Str.ofString "at", oA), (Str.ofString "shift", oS), (Str.ofString "factor", oF)] →
      Ext σ σ' → σ'[cl]? = some (.list [.tup [qV kb, qV cb]]) → σ'[al]? = some (.list [.obj dn]) → σ'[dn]? = some (.dict (D s.2.1) e1) → σ'[l]? = some (.dict (D s.1) e2) → σ'[bl]? = some (.dict (D []) e3) → l ≠ dn → DivRel σ fn sn al bl cl dn M kb cb s ρ' σ'
inductive DivInv (kb cb : Q2) (B left quot : PL) (work : Int) (s' : DS) : Prop
  | mk (k c fac : Q2) (quot' sh left' : PL) : left.length < lim → ¬ left.isEmpty = true → leadL left = some (k, c) → work + left.length ≤ 3000000 → mx (absI c.1) c.2 < 2 ^ 64 → k.1 ≤ 20000 → k.2 ≤ 20000 → kb.1 ≤ k.1 → kb.2 ≤ k.2 → rdivL c cb = some fac → addT quot (pquot k kb) fac = some quot' →
      mvshiftL B (pquot k kb) fac = some sh → mvsubL left sh = some left' → s' = (left', quot', work + left.length) → DivInv kb cb B left quot work s'
theorem div_inv {kb cb : Q2} {B left quot : PL} {work : Int} {s' : DS} (hstep : divStep kb cb B (left, quot, work) = some (some s')) : DivInv kb cb B left quot work s' := by
  unfold divStep at hstep
  dsimp only at hstep
  split at hstep
  rotate_left
  · cases hstep
  rename_i hll
  split at hstep
  · cases hstep
  rename_i hem
  split at hstep
  rotate_left
  · cases hstep
  rename_i k c hkc
  split at hstep
  rotate_left
  · cases hstep
  rename_i hcond
  split at hstep
  rotate_left
  · cases hstep
  rename_i fac hfac
  split at hstep
  rotate_left
  · cases hstep
  rename_i quot' hquot
  split at hstep
  rotate_left
  · cases hstep
  rename_i sh hsh
  split at hstep
  rotate_left
  · cases hstep
  rename_i left' hleft
  exact ⟨k, c, fac, quot', sh, left', hll, hem, hkc, hcond.1.1, hcond.1.2, hcond.2.1.1, hcond.2.1.2, hcond.2.2.1, hcond.2.2.2, hfac, hquot, hsh, hleft, (Option.some.inj (Option.some.inj hstep)).symm⟩
theorem div_inv0 {kb cb : Q2} {B left quot : PL} {work : Int} (hstep : divStep kb cb B (left, quot, work) = some none) : left.length < lim ∧ left = [] := by
  unfold divStep at hstep
  dsimp only at hstep
  split at hstep
  rotate_left
  · cases hstep
  rename_i hll
  split at hstep
  rotate_left
  · repeat' (split at hstep)
    all_goals cases hstep
  rename_i hem
  exact ⟨hll, List.isEmpty_iff.mp hem⟩
set_option maxHeartbeats 8000000 in
theorem mvdivide_spec {m fn sn bn ef eb : Nat} {F B quot : PL} {σ : Store} (hf : σ[fn]? = some (.dict (D F) ef)) (hs : σ[sn]? = some (.list [.obj bn])) (hb : σ[bn]? = some (.dict (D B) eb)) (h : divL F B = some quot) :
    ∃ v σ', callF P0 (m + 7) (Str.ofString "mvdivide") [.obj fn, .obj sn, lexS] σ = some (v, σ') ∧ DivOut σ quot v σ' := by
  unfold divL at h
  split at h
  rotate_left
  · first | exact no_some h | cases h
  rename_i hc
  obtain ⟨l1, l2, hap⟩ := hc
  have l1' : F.length < lim := by unfold lim; exact Nat.lt_add_left _ l1
  split at h
  rotate_left
  · first | exact no_some h | cases h
  rename_i kb cb hlead
  split at h
  rotate_left
  · first | exact no_some h | cases h
  rename_i s hiter
  cases h
  apply call_run _ find_mvdivide ok_mvdivide
  · exact rfl
  · -- the leads
    have hm1 := mvlead_spec (m := m + 4) (σ := σ ++ [.list []]) (Ext.app bn _ hb) hlead
    apply R_asg
    · apply E_lcomp
      · exact ⟨by decide +kernel, rfl⟩
      · apply R_name
        · exact E_name rfl rfl
        · exact iterV_list hs
      · exact rfl
      · apply C_item
        · exact rfl
        · exact rfl
        · exact next_list (Ext.app sn _ hs) rfl
        · exact rfl
        · exact I_nil
        · apply G_nil
          apply M_listL
          · repeat' (first
    | exact E_int | exact E_str | exact E_none | exact E_bool
    | exact E_name rfl rfl
    | apply E_bin | apply E_neg | (apply E_sub; case hs => (intro _ _ _ _ h; cases h))
    | apply E_tup | apply E_list | exact L_nil | (apply L_cons; case hs => (intro _ _ h; cases h))
    | (apply E_bi; (case hb => exact rfl); (case hf => kernel_rfl); (case hg => exact ⟨rfl, rfl, of_decide_eq_true rfl⟩))
    | (apply E_call; (case hf => kernel_rfl); (case hg => exact ⟨rfl, rfl, of_decide_eq_true rfl⟩))
    | exact O_add | exact O_sub | apply O_mul | apply O_div | apply O_mod
    | (apply T_cmp; case hm => exact rfl) | apply T_not | apply T_bop
    | exact hm1
    | assumption
    | fail
    | exact of_decide_eq_true rfl
    | exact rfl)
          · exact of_decide_eq_true rfl
        apply C_end
        · exact rfl
        · exact rfl
        · exact next_listE (Ext.app sn _ hs) rfl
    · exact rfl
    · exact .inr rfl
    have xa : Ext σ (σ ++ [.list ([] ++ [.tup [qV kb, qV cb]])]) := .app
    have ga : (σ ++ [.list ([] ++ [.tup [qV kb, qV cb]])])[σ.length]? = some (.list [.tup [qV kb, qV cb]]) := get_last
    have na : (σ ++ [Cell.list ([] ++ [.tup [qV kb, qV cb]])]).length = σ.length + 1 := by simp
    generalize σ ++ [Cell.list ([] ++ [.tup [qV kb, qV cb]])] = σa at xa ga na ⊢
    -- the quotients
    have g1 : ((σa ++ [Cell.list []]) ++ [Cell.dict [] 0])[σa.length]? = some (.list []) := Ext.app _ _ get_last
    apply R_asg
    · apply E_lcomp
      · exact ⟨by decide +kernel, rfl⟩
      · apply R_name
        · exact E_name rfl rfl
        · exact iterV_list (xa sn _ hs)
      · exact rfl
      · apply C_item
        · exact rfl
        · exact rfl
        · exact next_list (Ext.app sn _ (xa sn _ hs)) rfl
        · exact rfl
        · exact I_nil
        · apply G_nil
          apply M_list
          · exact E_dict0
          · exact g1
          · exact of_decide_eq_true rfl
        apply C_end
        · exact rfl
        · exact rfl
        · exact next_listE (((Ext.app (σ := σa)).trans Ext.app).set (Nat.le_refl _) sn _ (xa sn _ hs)) rfl
    · exact rfl
    · exact .inr rfl
    have xb : Ext σa (((σa ++ [Cell.list []]) ++ [Cell.dict [] 0]).set σa.length (.list ([] ++ [.obj (σa ++ [Cell.list []]).length]))) := ((Ext.app (σ := σa)).trans Ext.app).set (Nat.le_refl _)
    have gb : (((σa ++ [Cell.list []]) ++ [Cell.dict [] 0]).set σa.length (.list ([] ++ [.obj (σa ++ [Cell.list []]).length])))[σa.length]? = some (.list [.obj (σa ++ [Cell.list []]).length]) := get_set g1
    have gd : (((σa ++ [Cell.list []]) ++ [Cell.dict [] 0]).set σa.length (.list ([] ++ [.obj (σa ++ [Cell.list []]).length])))[(σa ++ [Cell.list []]).length]? = some (.dict (D []) 0) := by
      rw [List.getElem?_set_ne (by simp)]
      exact get_last
    have nd : (σa ++ [Cell.list []]).length = σa.length + 1 := by simp
    generalize hdn : (σa ++ [Cell.list []]).length = dn at xb gb gd nd ⊢
    generalize ((σa ++ [Cell.list []]) ++ [Cell.dict [] 0]).set σa.length (.list ([] ++ [.obj dn])) = σb at xb gb gd ⊢
    have lb : dn < σb.length := (List.getElem?_eq_some_iff.mp gd).1
    -- rest, left, work
    obtain ⟨ep0, hcp⟩ := O_copy (σ := σb ++ [.dict [] 0]) (Ext.app fn _ (xb fn _ (xa fn _ hf))) l1' hap
    apply R_tupS
    · apply E_tup
      · apply L_cons
        · intro _ _ h; cases h
        · exact E_dict0
        · repeat' (first
    | exact E_int | exact E_str | exact E_none | exact E_bool
    | exact E_name rfl rfl
    | apply E_bin | apply E_neg | (apply E_sub; case hs => (intro _ _ _ _ h; cases h))
    | apply E_tup | apply E_list | exact L_nil | (apply L_cons; case hs => (intro _ _ h; cases h))
    | (apply E_bi; (case hb => exact rfl); (case hf => kernel_rfl); (case hg => exact ⟨rfl, rfl, of_decide_eq_true rfl⟩))
    | (apply E_call; (case hf => kernel_rfl); (case hg => exact ⟨rfl, rfl, of_decide_eq_true rfl⟩))
    | exact O_add | exact O_sub | apply O_mul | apply O_div | apply O_mod
    | (apply T_cmp; case hm => exact rfl) | apply T_not | apply T_bop
    | exact hcp
    | assumption
    | fail
    | exact of_decide_eq_true rfl
    | exact rfl)
      · exact of_decide_eq_true rfl
    · exact rfl
    · exact ⟨by decide +kernel, rfl, by decide +kernel⟩
    have xc : Ext σb ((σb ++ [Cell.dict [] 0]) ++ [Cell.dict (D F) ep0]) := Ext.app.trans Ext.app
    have gr : ((σb ++ [Cell.dict [] 0]) ++ [Cell.dict (D F) ep0])[σb.length]? = some (.dict (D []) 0) := Ext.app _ _ get_last
    have gl : ((σb ++ [Cell.dict [] 0]) ++ [Cell.dict (D F) ep0])[(σb ++ [Cell.dict [] 0]).length]? = some (.dict (D F) ep0) := get_last
    have nl : (σb ++ [Cell.dict [] 0]).length = σb.length + 1 := by simp
    generalize (σb ++ [Cell.dict [] 0]).length = l0 at gl nl ⊢
    generalize (σb ++ [Cell.dict [] 0]) ++ [Cell.dict (D F) ep0] = σc at xc gr gl ⊢
    -- most
    obtain ⟨fl, hfl, hfn⟩ := flat_fold (ks := keys F) (acc := []) (by simp; exact ar65 l1)
    have fnum : (Ext.trans xa (Ext.trans xb xc)) fn _ hf = (Ext.trans xa (Ext.trans xb xc)) fn _ hf := rfl
    have hfc : σc[fn]? = some (.dict (D F) ef) := xc fn _ (xb fn _ (xa fn _ hf))
    have xd : Ext σc (σc ++ [Cell.list [.int 20000]]) := .app
    have gmf : (σc ++ [Cell.list [.int 20000]])[σc.length]? = some (.list [.int 20000]) := get_last
    apply R_asgE
    · exact .inl rfl
    apply X_bi1
    · intro _ _ h; cases h
    · exact ⟨rfl, rfl, of_decide_eq_true rfl⟩
    · kernel_rfl
    · exact rfl
    apply X_bin
    · repeat' (first
    | exact E_int | exact E_str | exact E_none | exact E_bool
    | exact E_name rfl rfl
    | apply E_bin | apply E_neg | (apply E_sub; case hs => (intro _ _ _ _ h; cases h))
    | apply E_tup | apply E_list | exact L_nil | (apply L_cons; case hs => (intro _ _ h; cases h))
    | (apply E_bi; (case hb => exact rfl); (case hf => kernel_rfl); (case hg => exact ⟨rfl, rfl, of_decide_eq_true rfl⟩))
    | (apply E_call; (case hf => kernel_rfl); (case hg => exact ⟨rfl, rfl, of_decide_eq_true rfl⟩))
    | exact O_add | exact O_sub | apply O_mul | apply O_div | apply O_mod
    | (apply T_cmp; case hm => exact rfl) | apply T_not | apply T_bop
    | fail
    | assumption
    | fail
    | exact of_decide_eq_true rfl
    | exact rfl)
    generalize σc ++ [Cell.list [.int 20000]] = σd at xd gmf ⊢
    have key := fun (T : Tb) (d : Nat) (cx : Cx) (inner : Rho → Store → Option (Rho × Store)) (pp : Pos) (hs : _) => comp_PL (T := T) (d := d) (cx := cx) (inner := inner) (x := Str.ofString "powers") (pp := pp) (ifs := []) (n := fn) (ep := ef) (step := flatS) (a0 := []) (r0 := fl) (fun acc ρ' σ' => ∃ o o2, ρ' = [(Str.ofString ".0", Option.none), (Str.ofString "powers", o), (Str.ofString "one", o2)] ∧ Ext σd σ' ∧ σ'[σd.length]? = some (.list (acc.map V.int))) (σ := σd ++ [.list []]) l1' hfl ⟨none, none, rfl, .app, get_last⟩ (fun acc ρ σ' hr => by obtain ⟨o, o2, rfl, hx, hj⟩ := hr; exact hx fn _ (xd fn _ hfc)) hs
    apply X_lcomp
    · exact .inr ⟨_, rfl⟩
    · exact ⟨by decide +kernel, rfl⟩
    · apply R_name
      · exact E_name rfl rfl
      · exact iterV_obj (xd fn _ hfc)
    · exact rfl
    · refine key _ _ _ _ _ ?_
      rintro acc k acc' ρ σ' hk hs ⟨o, o2, rfl, hx, hj⟩
      unfold flatS at hs
      split at hs
      rotate_left
      · cases hs
      rename_i hl
      cases hs
      have hl1 : (acc.map V.int).length < lim := by simp; exact Nat.lt_of_add_right_lt hl
      have hl2 : (acc.map V.int ++ [V.int k.1]).length < lim := by simp; exact Nat.lt_of_succ_lt hl
      have hj2 := get_set (c := .list (acc.map V.int ++ [.int k.1])) hj
      refine ⟨_, true, σ', rfl, I_nil, ?_⟩
      rw [if_pos rfl]
      refine ⟨_, (σ'.set σd.length (.list (acc.map V.int ++ [.int k.1]))).set σd.length (.list ((acc.map V.int ++ [.int k.1]) ++ [.int k.2])), ?_, some (qV k), some (.int k.2), rfl, (hx.set (Nat.le_refl _)).set (Nat.le_refl _), ?_⟩
      · apply G_cons
        · exact rfl
        · apply R_name
          · exact E_name rfl rfl
          · exact rfl
        · apply C_item
          · exact rfl
          · exact rfl
          · exact rfl
          · exact rfl
          · exact I_nil
          · apply G_nil
            apply M_list
            · exact E_name rfl rfl
            · exact hj
            · exact hl1
          apply C_item
          · exact rfl
          · exact rfl
          · exact rfl
          · exact rfl
          · exact I_nil
          · apply G_nil
            apply M_list
            · exact E_name rfl rfl
            · exact hj2
            · exact hl2
          apply C_end
          · exact rfl
          · exact rfl
          · exact rfl
      · rw [get_set hj2]
        simp
    rintro ρ' σe ⟨o, o2, rfl, hx, hj⟩
    have hn2 : fl.length < 9000 := by rw [hfn]; simp; exact ar65 l1
    refine ⟨_, _, O_ladd (hx _ _ gmf) hj (by simp; unfold lim; exact ar296 hn2), _, _, O_max get_last (show intsOf ((20000 :: fl).map V.int) = some (20000 :: fl) from intsOf_map), _, rfl, ?_⟩
    have hM : 20000 ≤ maxL 20000 fl := (maxL_spec fl 20000).2.1
    generalize maxL 20000 fl = M at hM ⊢
    have xf : Ext σe (σe ++ [.list ([.int 20000] ++ fl.map V.int)]) := .app
    generalize σe ++ [Cell.list ([.int 20000] ++ fl.map V.int)] = σf at xf ⊢
    have xcf : Ext σc σf := xd.trans (hx.trans xf)
    have xbf : Ext σb σf := xc.trans xcf
    have xaf : Ext σa σf := xb.trans xbf
    -- the loop
    refine R_while (DivRel σ fn sn σa.length σb.length σ.length dn M kb cb) (k := 1000) (by decide) hiter ⟨l0, 0, ep0, 0, none, none, none, none, none, rfl, xa.trans xaf, xaf _ _ ga, xbf _ _ gb, xbf _ _ gd, xcf _ _ gl, xcf _ _ gr, by exact ar297 lb nl⟩ ?_ ?_ ?_
    · rintro ⟨left, quot, work⟩ s' ρ σ' hstep ⟨l, e1, e2, e3, oP, oR, oA, oS, oF, rfl, hX, h1, h2, h3, h4, h5, hne⟩
      obtain ⟨k, c, fac, quot', sh, left', hll, hem, hkc, cw, cv, ck1, ck2, cd1, cd2, hfac, hquot, hsh, hleft, rfl⟩ := div_inv hstep
      clear hstep
      dsimp only at h3 h4
      have hlen := O_len h4 hll
      have hpos : decide ((0 : Int) < ((left.length : Nat) : Int)) = true := decide_eq_true (by
        cases left with
        | nil => exact absurd rfl hem
        | cons a b => show (0 : Int) < ((b.length + 1 : Nat) : Int); exact ar298)
      apply Tst.mk
      · repeat' (first
    | exact E_int | exact E_str | exact E_none | exact E_bool
    | exact E_name rfl rfl
    | apply E_bin | apply E_neg | (apply E_sub; case hs => (intro _ _ _ _ h; cases h))
    | apply E_tup | apply E_list | exact L_nil | (apply L_cons; case hs => (intro _ _ h; cases h))
    | (apply E_bi; (case hb => exact rfl); (case hf => kernel_rfl); (case hg => exact ⟨rfl, rfl, of_decide_eq_true rfl⟩))
    | (apply E_call; (case hf => kernel_rfl); (case hg => exact ⟨rfl, rfl, of_decide_eq_true rfl⟩))
    | exact O_add | exact O_sub | apply O_mul | apply O_div | apply O_mod
    | (apply T_cmp; case hm => exact rfl) | apply T_not | apply T_bop
    | exact hlen
    | assumption
    | fail
    | exact of_decide_eq_true rfl
    | exact rfl)
      apply B_in
      have c1 := mvlead_spec (m := m + 4) h4 hkc
      apply R_tupS
      · repeat' (first
    | exact E_int | exact E_str | exact E_none | exact E_bool
    | exact E_name rfl rfl
    | apply E_bin | apply E_neg | (apply E_sub; case hs => (intro _ _ _ _ h; cases h))
    | apply E_tup | apply E_list | exact L_nil | (apply L_cons; case hs => (intro _ _ h; cases h))
    | (apply E_bi; (case hb => exact rfl); (case hf => kernel_rfl); (case hg => exact ⟨rfl, rfl, of_decide_eq_true rfl⟩))
    | (apply E_call; (case hf => kernel_rfl); (case hg => exact ⟨rfl, rfl, of_decide_eq_true rfl⟩))
    | exact O_add | exact O_sub | apply O_mul | apply O_div | apply O_mod
    | (apply T_cmp; case hm => exact rfl) | apply T_not | apply T_bop
    | exact c1
    | assumption
    | fail
    | exact of_decide_eq_true rfl
    | exact rfl)
      · exact rfl
      · exact ⟨by decide +kernel, rfl, by decide +kernel⟩
      apply R_aug
      · exact rfl
      · repeat' (first
    | exact E_int | exact E_str | exact E_none | exact E_bool
    | exact E_name rfl rfl
    | apply E_bin | apply E_neg | (apply E_sub; case hs => (intro _ _ _ _ h; cases h))
    | apply E_tup | apply E_list | exact L_nil | (apply L_cons; case hs => (intro _ _ h; cases h))
    | (apply E_bi; (case hb => exact rfl); (case hf => kernel_rfl); (case hg => exact ⟨rfl, rfl, of_decide_eq_true rfl⟩))
    | (apply E_call; (case hf => kernel_rfl); (case hg => exact ⟨rfl, rfl, of_decide_eq_true rfl⟩))
    | exact O_add | exact O_sub | apply O_mul | apply O_div | apply O_mod
    | (apply T_cmp; case hm => exact rfl) | apply T_not | apply T_bop
    | exact hlen
    | assumption
    | fail
    | exact of_decide_eq_true rfl
    | exact rfl)
      · exact rfl
      have w1 : decide ((3000000 : Int) < work + (left.length : Nat)) = false := decide_eq_false (by exact Int.not_lt_of_ge cw)
      have c2 := vast_spec (n := m + 5) (a := c) (σ := σ') cv
      have mk1 : decide (M < k.1) = false := decide_eq_false (by exact ar68 hM ck1)
      have mk2 : decide (M < k.2) = false := decide_eq_false (by exact ar68 hM ck2)
      apply R_ifF
      · apply T_bop
        apply B_orF
        · repeat' (first
    | exact E_int | exact E_str | exact E_none | exact E_bool
    | exact E_name rfl rfl
    | apply E_bin | apply E_neg | (apply E_sub; case hs => (intro _ _ _ _ h; cases h))
    | apply E_tup | apply E_list | exact L_nil | (apply L_cons; case hs => (intro _ _ h; cases h))
    | (apply E_bi; (case hb => exact rfl); (case hf => kernel_rfl); (case hg => exact ⟨rfl, rfl, of_decide_eq_true rfl⟩))
    | (apply E_call; (case hf => kernel_rfl); (case hg => exact ⟨rfl, rfl, of_decide_eq_true rfl⟩))
    | exact O_add | exact O_sub | apply O_mul | apply O_div | apply O_mod
    | (apply T_cmp; case hm => exact rfl) | apply T_not | apply T_bop
    | fail
    | assumption
    | fail
    | exact of_decide_eq_true rfl
    | exact rfl)
        · apply B_orF
          · apply T_call
            repeat' (first
    | exact E_int | exact E_str | exact E_none | exact E_bool
    | exact E_name rfl rfl
    | apply E_bin | apply E_neg | (apply E_sub; case hs => (intro _ _ _ _ h; cases h))
    | apply E_tup | apply E_list | exact L_nil | (apply L_cons; case hs => (intro _ _ h; cases h))
    | (apply E_bi; (case hb => exact rfl); (case hf => kernel_rfl); (case hg => exact ⟨rfl, rfl, of_decide_eq_true rfl⟩))
    | (apply E_call; (case hf => kernel_rfl); (case hg => exact ⟨rfl, rfl, of_decide_eq_true rfl⟩))
    | exact O_add | exact O_sub | apply O_mul | apply O_div | apply O_mod
    | (apply T_cmp; case hm => exact rfl) | apply T_not | apply T_bop
    | exact c2
    | assumption
    | fail
    | exact of_decide_eq_true rfl
    | exact rfl)
          · apply B_orF
            · apply T_call
              apply E_bi
              case hb => exact rfl
              case hf => kernel_rfl
              case hg => exact ⟨rfl, rfl, of_decide_eq_true rfl⟩
              · apply L_cons
                · intro _ _ h; cases h
                · apply E_lcomp
                  · exact ⟨by decide +kernel, rfl⟩
                  · apply R_name
                    · exact E_name rfl rfl
                    · exact rfl
                  · exact rfl
                  · apply C_item
                    · exact rfl
                    · exact rfl
                    · exact rfl
                    · exact rfl
                    · exact I_nil
                    · apply G_nil
                      apply M_listL
                      · apply E_cmpc
                        · exact rfl
                        · repeat' (first
    | exact E_int | exact E_str | exact E_none | exact E_bool
    | exact E_name rfl rfl
    | apply E_bin | apply E_neg | (apply E_sub; case hs => (intro _ _ _ _ h; cases h))
    | apply E_tup | apply E_list | exact L_nil | (apply L_cons; case hs => (intro _ _ h; cases h))
    | (apply E_bi; (case hb => exact rfl); (case hf => kernel_rfl); (case hg => exact ⟨rfl, rfl, of_decide_eq_true rfl⟩))
    | (apply E_call; (case hf => kernel_rfl); (case hg => exact ⟨rfl, rfl, of_decide_eq_true rfl⟩))
    | exact O_add | exact O_sub | apply O_mul | apply O_div | apply O_mod
    | (apply T_cmp; case hm => exact rfl) | apply T_not | apply T_bop
    | fail
    | assumption
    | fail
    | exact of_decide_eq_true rfl
    | exact rfl)
                        · repeat' (first
    | exact E_int | exact E_str | exact E_none | exact E_bool
    | exact E_name rfl rfl
    | apply E_bin | apply E_neg | (apply E_sub; case hs => (intro _ _ _ _ h; cases h))
    | apply E_tup | apply E_list | exact L_nil | (apply L_cons; case hs => (intro _ _ h; cases h))
    | (apply E_bi; (case hb => exact rfl); (case hf => kernel_rfl); (case hg => exact ⟨rfl, rfl, of_decide_eq_true rfl⟩))
    | (apply E_call; (case hf => kernel_rfl); (case hg => exact ⟨rfl, rfl, of_decide_eq_true rfl⟩))
    | exact O_add | exact O_sub | apply O_mul | apply O_div | apply O_mod
    | (apply T_cmp; case hm => exact rfl) | apply T_not | apply T_bop
    | fail
    | assumption
    | fail
    | exact of_decide_eq_true rfl
    | exact rfl)
                        · exact rfl
                        · exact mk1
                      · exact of_decide_eq_true rfl
                    apply C_item
                    · exact rfl
                    · exact rfl
                    · exact rfl
                    · exact rfl
                    · exact I_nil
                    · apply G_nil
                      apply M_listL
                      · apply E_cmpc
                        · exact rfl
                        · repeat' (first
    | exact E_int | exact E_str | exact E_none | exact E_bool
    | exact E_name rfl rfl
    | apply E_bin | apply E_neg | (apply E_sub; case hs => (intro _ _ _ _ h; cases h))
    | apply E_tup | apply E_list | exact L_nil | (apply L_cons; case hs => (intro _ _ h; cases h))
    | (apply E_bi; (case hb => exact rfl); (case hf => kernel_rfl); (case hg => exact ⟨rfl, rfl, of_decide_eq_true rfl⟩))
    | (apply E_call; (case hf => kernel_rfl); (case hg => exact ⟨rfl, rfl, of_decide_eq_true rfl⟩))
    | exact O_add | exact O_sub | apply O_mul | apply O_div | apply O_mod
    | (apply T_cmp; case hm => exact rfl) | apply T_not | apply T_bop
    | fail
    | assumption
    | fail
    | exact of_decide_eq_true rfl
    | exact rfl)
                        · repeat' (first
    | exact E_int | exact E_str | exact E_none | exact E_bool
    | exact E_name rfl rfl
    | apply E_bin | apply E_neg | (apply E_sub; case hs => (intro _ _ _ _ h; cases h))
    | apply E_tup | apply E_list | exact L_nil | (apply L_cons; case hs => (intro _ _ h; cases h))
    | (apply E_bi; (case hb => exact rfl); (case hf => kernel_rfl); (case hg => exact ⟨rfl, rfl, of_decide_eq_true rfl⟩))
    | (apply E_call; (case hf => kernel_rfl); (case hg => exact ⟨rfl, rfl, of_decide_eq_true rfl⟩))
    | exact O_add | exact O_sub | apply O_mul | apply O_div | apply O_mod
    | (apply T_cmp; case hm => exact rfl) | apply T_not | apply T_bop
    | fail
    | assumption
    | fail
    | exact of_decide_eq_true rfl
    | exact rfl)
                        · exact rfl
                        · exact mk2
                      · exact of_decide_eq_true rfl
                    apply C_end
                    · exact rfl
                    · exact rfl
                    · exact rfl
                · exact L_nil
              · exact O_any2
            · exact B_nilO
      · exact X_s S_nil
      have y1 : Ext σ' (σ' ++ [Cell.list [.bool false, .bool false]]) := .app
      generalize σ' ++ [Cell.list [.bool false, .bool false]] = σ2 at y1 ⊢
      have c3 := first_spec (m := m + 4) (y1 _ _ h1) cd1 cd2
      apply R_asg
      · repeat' (first
    | exact E_int | exact E_str | exact E_none | exact E_bool
    | exact E_name rfl rfl
    | apply E_bin | apply E_neg | (apply E_sub; case hs => (intro _ _ _ _ h; cases h))
    | apply E_tup | apply E_list | exact L_nil | (apply L_cons; case hs => (intro _ _ h; cases h))
    | (apply E_bi; (case hb => exact rfl); (case hf => kernel_rfl); (case hg => exact ⟨rfl, rfl, of_decide_eq_true rfl⟩))
    | (apply E_call; (case hf => kernel_rfl); (case hg => exact ⟨rfl, rfl, of_decide_eq_true rfl⟩))
    | exact O_add | exact O_sub | apply O_mul | apply O_div | apply O_mod
    | (apply T_cmp; case hm => exact rfl) | apply T_not | apply T_bop
    | exact c3
    | assumption
    | fail
    | exact of_decide_eq_true rfl
    | exact rfl)
      · exact rfl
      · exact .inl rfl
      apply R_ifF
      · repeat' (first
    | exact E_int | exact E_str | exact E_none | exact E_bool
    | exact E_name rfl rfl
    | apply E_bin | apply E_neg | (apply E_sub; case hs => (intro _ _ _ _ h; cases h))
    | apply E_tup | apply E_list | exact L_nil | (apply L_cons; case hs => (intro _ _ h; cases h))
    | (apply E_bi; (case hb => exact rfl); (case hf => kernel_rfl); (case hg => exact ⟨rfl, rfl, of_decide_eq_true rfl⟩))
    | (apply E_call; (case hf => kernel_rfl); (case hg => exact ⟨rfl, rfl, of_decide_eq_true rfl⟩))
    | exact O_add | exact O_sub | apply O_mul | apply O_div | apply O_mod
    | (apply T_cmp; case hm => exact rfl) | apply T_not | apply T_bop
    | fail
    | assumption
    | fail
    | exact of_decide_eq_true rfl
    | exact rfl)
      · exact X_s S_nil
      have i1 : getitem (.obj σ.length) (.int 0) σ2 = some (.tup [qV kb, qV cb]) := O_idx (y1 _ _ h1) rfl
      have c4 := pquot_spec (n := m + 5) (a := k) (b := kb) (σ := σ2)
      have y2 : Ext σ2 (σ2 ++ [Cell.list [.int (k.1 - kb.1), .int (k.2 - kb.2)]]) := .app
      generalize σ2 ++ [Cell.list [.int (k.1 - kb.1), .int (k.2 - kb.2)]] = σ3 at c4 y2
      have i2 : getitem (.obj σ.length) (.int 0) σ3 = some (.tup [qV kb, qV cb]) := O_idx (y2 _ _ (y1 _ _ h1)) rfl
      have c5 := rdiv_spec (n := m + 3) (σ := σ3) hfac
      apply R_tupS
      · apply E_tup
        · apply L_cons
          · intro _ _ h; cases h
          · repeat' (first
    | exact E_int | exact E_str | exact E_none | exact E_bool
    | exact E_name rfl rfl
    | apply E_bin | apply E_neg | (apply E_sub; case hs => (intro _ _ _ _ h; cases h))
    | apply E_tup | apply E_list | exact L_nil | (apply L_cons; case hs => (intro _ _ h; cases h))
    | (apply E_bi; (case hb => exact rfl); (case hf => kernel_rfl); (case hg => exact ⟨rfl, rfl, of_decide_eq_true rfl⟩))
    | (apply E_call; (case hf => kernel_rfl); (case hg => exact ⟨rfl, rfl, of_decide_eq_true rfl⟩))
    | exact O_add | exact O_sub | apply O_mul | apply O_div | apply O_mod
    | (apply T_cmp; case hm => exact rfl) | apply T_not | apply T_bop
    | exact c4
    | assumption
    | exact i1
    | exact of_decide_eq_true rfl
    | exact rfl)
          · apply L_cons
            · intro _ _ h; cases h
            · repeat' (first
    | exact E_int | exact E_str | exact E_none | exact E_bool
    | exact E_name rfl rfl
    | apply E_bin | apply E_neg | (apply E_sub; case hs => (intro _ _ _ _ h; cases h))
    | apply E_tup | apply E_list | exact L_nil | (apply L_cons; case hs => (intro _ _ h; cases h))
    | (apply E_bi; (case hb => exact rfl); (case hf => kernel_rfl); (case hg => exact ⟨rfl, rfl, of_decide_eq_true rfl⟩))
    | (apply E_call; (case hf => kernel_rfl); (case hg => exact ⟨rfl, rfl, of_decide_eq_true rfl⟩))
    | exact O_add | exact O_sub | apply O_mul | apply O_div | apply O_mod
    | (apply T_cmp; case hm => exact rfl) | apply T_not | apply T_bop
    | exact c5
    | assumption
    | exact i2
    | exact of_decide_eq_true rfl
    | exact rfl)
            · exact L_nil
        · exact of_decide_eq_true rfl
      · exact rfl
      · exact ⟨by decide +kernel, rfl, by decide +kernel⟩
      have i3 : getitem (.obj σa.length) (.int 0) σ3 = some (.obj dn) := O_idx (y2 _ _ (y1 _ _ h2)) rfl
      obtain ⟨ep6, c6⟩ := add_spec (m := m + 2) (y2 _ _ (y1 _ _ h3)) hquot
      apply R_expr
      · repeat' (first
    | exact E_int | exact E_str | exact E_none | exact E_bool
    | exact E_name rfl rfl
    | apply E_bin | apply E_neg | (apply E_sub; case hs => (intro _ _ _ _ h; cases h))
    | apply E_tup | apply E_list | exact L_nil | (apply L_cons; case hs => (intro _ _ h; cases h))
    | (apply E_bi; (case hb => exact rfl); (case hf => kernel_rfl); (case hg => exact ⟨rfl, rfl, of_decide_eq_true rfl⟩))
    | (apply E_call; (case hf => kernel_rfl); (case hg => exact ⟨rfl, rfl, of_decide_eq_true rfl⟩))
    | exact O_add | exact O_sub | apply O_mul | apply O_div | apply O_mod
    | (apply T_cmp; case hm => exact rfl) | apply T_not | apply T_bop
    | exact c6
    | assumption
    | exact i3
    | exact of_decide_eq_true rfl
    | exact rfl)
      have z3 : Ext σ' σ3 := y1.trans y2
      have f4 := get_set (c := .dict (D quot') ep6) (z3 _ _ h3)
      have ne4 : ∀ (j : Nat) (cc : Cell), j ≠ dn → σ'[j]? = some cc → (σ3.set dn (.dict (D quot') ep6))[j]? = some cc := fun j cc hj hc => by
        rw [List.getElem?_set_ne (Ne.symm hj)]; exact z3 _ _ hc
      have hXd : Ext σ (σ3.set dn (.dict (D quot') ep6)) := (hX.trans z3).set (by exact ar69 na nd)
      have hs4 := hXd _ _ hs
      have hb4 := hXd _ _ hb
      have k1 := ne4 σ.length _ (by exact ar300 na nd) h1
      have k2 := ne4 σa.length _ (by exact ar301 nd) h2
      have k4 := ne4 l _ hne h4
      have k5 := ne4 σb.length _ (by exact Nat.ne_of_gt lb) h5
      generalize σ3.set dn (.dict (D quot') ep6) = σ4 at f4 hXd hs4 hb4 k1 k2 k4 k5 ⊢
      refine elimD (mvshift_spec (m := m + 2) hb4 hsh) fun σ7 j7 e7 c7 x7 g7 l7 => ?_
      refine elimD (mvsub_spec (m := m) (x7 _ _ k4) g7 hleft) fun σ8 j8 e8 c8 x8 g8 l8 => ?_
      have i4 : getitem (.obj sn) (.int 0) σ4 = some (.obj bn) := O_idx hs4 rfl
      apply R_asg
      · repeat' (first
    | exact E_int | exact E_str | exact E_none | exact E_bool
    | exact E_name rfl rfl
    | apply E_bin | apply E_neg | (apply E_sub; case hs => (intro _ _ _ _ h; cases h))
    | apply E_tup | apply E_list | exact L_nil | (apply L_cons; case hs => (intro _ _ h; cases h))
    | (apply E_bi; (case hb => exact rfl); (case hf => kernel_rfl); (case hg => exact ⟨rfl, rfl, of_decide_eq_true rfl⟩))
    | (apply E_call; (case hf => kernel_rfl); (case hg => exact ⟨rfl, rfl, of_decide_eq_true rfl⟩))
    | exact O_add | exact O_sub | apply O_mul | apply O_div | apply O_mod
    | (apply T_cmp; case hm => exact rfl) | apply T_not | apply T_bop
    | exact c8 | exact c7
    | assumption
    | exact i4
    | exact of_decide_eq_true rfl
    | exact rfl)
      · exact rfl
      · exact .inl rfl
      apply R_nil
      have x48 := x7.trans x8
      have hd4 : dn < σ4.length := (List.getElem?_eq_some_iff.mp f4).1
      have hl47 := x7.len
      exact ⟨.inl rfl, j8, ep6, e8, e3, _, _, _, _, _, rfl, hXd.trans x48, x48 _ _ k1, x48 _ _ k2, x48 _ _ f4, g8, x48 _ _ k5, by exact ar303 l8 hd4 hl47⟩
    · rintro ⟨left, quot, work⟩ ρ σ' hstep ⟨l, e1, e2, e3, oP, oR, oA, oS, oF, rfl, hX, h1, h2, h3, h4, h5, hne⟩
      obtain ⟨hll, rfl⟩ := div_inv0 hstep
      clear hstep
      dsimp only at h3 h4
      have hlen := O_len h4 hll
      apply Tst.mk
      · repeat' (first
    | exact E_int | exact E_str | exact E_none | exact E_bool
    | exact E_name rfl rfl
    | apply E_bin | apply E_neg | (apply E_sub; case hs => (intro _ _ _ _ h; cases h))
    | apply E_tup | apply E_list | exact L_nil | (apply L_cons; case hs => (intro _ _ h; cases h))
    | (apply E_bi; (case hb => exact rfl); (case hf => kernel_rfl); (case hg => exact ⟨rfl, rfl, of_decide_eq_true rfl⟩))
    | (apply E_call; (case hf => kernel_rfl); (case hg => exact ⟨rfl, rfl, of_decide_eq_true rfl⟩))
    | exact O_add | exact O_sub | apply O_mul | apply O_div | apply O_mod
    | (apply T_cmp; case hm => exact rfl) | apply T_not | apply T_bop
    | exact hlen
    | assumption
    | fail
    | exact of_decide_eq_true rfl
    | exact rfl)
      exact ⟨l, e1, e2, e3, oP, oR, oA, oS, oF, rfl, hX, h1, h2, h3, h4, h5, hne⟩
    · rintro ρ' σ' ⟨l, e1, e2, e3, oP, oR, oA, oS, oF, rfl, hX, h1, h2, h3, h4, h5, hne⟩
      apply R_ret
      · repeat' (first
    | exact E_int | exact E_str | exact E_none | exact E_bool
    | exact E_name rfl rfl
    | apply E_bin | apply E_neg | (apply E_sub; case hs => (intro _ _ _ _ h; cases h))
    | apply E_tup | apply E_list | exact L_nil | (apply L_cons; case hs => (intro _ _ h; cases h))
    | (apply E_bi; (case hb => exact rfl); (case hf => kernel_rfl); (case hg => exact ⟨rfl, rfl, of_decide_eq_true rfl⟩))
    | (apply E_call; (case hf => kernel_rfl); (case hg => exact ⟨rfl, rfl, of_decide_eq_true rfl⟩))
    | exact O_add | exact O_sub | apply O_mul | apply O_div | apply O_mod
    | (apply T_cmp; case hm => exact rfl) | apply T_not | apply T_bop
    | fail
    | assumption
    | fail
    | exact of_decide_eq_true rfl
    | exact rfl)
      exact ⟨_, .inl rfl, σa.length, dn, σb.length, e1, e3, rfl, hX, h2, h3, h5, by exact ar69 na nd⟩
end Mine
set_option maxHeartbeats 8000000
namespace Mine
open PySem PyProof.Rows
noncomputable def exactL (p q : PL) : Option PL := if q.length < lim ∧ q.isEmpty = false then divL p q else none
theorem mvexact_spec {m a b ea eb : Nat} {p q r : PL} {σ : Store} (ha : σ[a]? = some (.dict (D p) ea)) (hb : σ[b]? = some (.dict (D q) eb)) (h : exactL p q = some r) : ∃ v σ', callF P0 (m + 8) (Str.ofString "mvexact") [.obj a, .obj b] σ = some (v, σ') ∧ FreshD σ r v σ' := by
  unfold exactL at h
  split at h
  rotate_left
  · first | exact no_some h | cases h
  rename_i hc
  obtain ⟨l1, l2⟩ := hc
  have hlen := O_len hb l1
  have h0 : (((q.length : Nat) : Int) == 0) = false := by
    cases q with
    | nil => cases l2
    | cons x y => exact beq_eq_false_iff_ne.mpr (by show ((y.length + 1 : Nat) : Int) ≠ 0; exact ar30)
  have x1 : Ext σ (σ ++ [Cell.list [.obj b]]) := .app
  have g1 : (σ ++ [Cell.list [.obj b]])[σ.length]? = some (.list [.obj b]) := get_last
  obtain ⟨v2, σ2, c2, qn, dn, rn, e1, e3, rfl, x2, g2, g3, g4, l3⟩ := mvdivide_spec (m := m) (x1 _ _ ha) g1 (x1 _ _ hb) h
  have i2 : getitem (.obj qn) (.int 0) σ2 = some (.obj dn) := O_idx g2 rfl
  have hl2 : biCall .len [.obj rn] σ2 = some (.int 0, σ2) := O_len g4 (by decide)
  apply call_run _ find_mvexact ok_mvexact
  · exact rfl
  · apply R_ifF
    · repeat' (first
    | exact E_int | exact E_str | exact E_none | exact E_bool
    | exact E_name rfl rfl
    | apply E_bin | apply E_neg | (apply E_sub; case hs => (intro _ _ _ _ h; cases h))
    | apply E_tup | apply E_list | exact L_nil | (apply L_cons; case hs => (intro _ _ h; cases h))
    | (apply E_bi; (case hb => exact rfl); (case hf => kernel_rfl); (case hg => exact ⟨rfl, rfl, of_decide_eq_true rfl⟩))
    | (apply E_call; (case hf => kernel_rfl); (case hg => exact ⟨rfl, rfl, of_decide_eq_true rfl⟩))
    | exact O_add | exact O_sub | apply O_mul | apply O_div | apply O_mod
    | (apply T_cmp; case hm => exact rfl) | apply T_not | apply T_bop
    | exact hlen
    | assumption
    | fail
    | exact of_decide_eq_true rfl
    | exact rfl)
    · exact X_s S_nil
    apply R_tupS
    · repeat' (first
    | exact E_int | exact E_str | exact E_none | exact E_bool
    | exact E_name rfl rfl
    | apply E_bin | apply E_neg | (apply E_sub; case hs => (intro _ _ _ _ h; cases h))
    | apply E_tup | apply E_list | exact L_nil | (apply L_cons; case hs => (intro _ _ h; cases h))
    | (apply E_bi; (case hb => exact rfl); (case hf => kernel_rfl); (case hg => exact ⟨rfl, rfl, of_decide_eq_true rfl⟩))
    | (apply E_call; (case hf => kernel_rfl); (case hg => exact ⟨rfl, rfl, of_decide_eq_true rfl⟩))
    | exact O_add | exact O_sub | apply O_mul | apply O_div | apply O_mod
    | (apply T_cmp; case hm => exact rfl) | apply T_not | apply T_bop
    | exact c2
    | assumption
    | fail
    | exact of_decide_eq_true rfl
    | exact rfl)
    · exact rfl
    · exact ⟨by decide +kernel, rfl, by decide +kernel⟩
    apply R_ret
    · apply E_ifT
      · repeat' (first
    | exact E_int | exact E_str | exact E_none | exact E_bool
    | exact E_name rfl rfl
    | apply E_bin | apply E_neg | (apply E_sub; case hs => (intro _ _ _ _ h; cases h))
    | apply E_tup | apply E_list | exact L_nil | (apply L_cons; case hs => (intro _ _ h; cases h))
    | (apply E_bi; (case hb => exact rfl); (case hf => kernel_rfl); (case hg => exact ⟨rfl, rfl, of_decide_eq_true rfl⟩))
    | (apply E_call; (case hf => kernel_rfl); (case hg => exact ⟨rfl, rfl, of_decide_eq_true rfl⟩))
    | exact O_add | exact O_sub | apply O_mul | apply O_div | apply O_mod
    | (apply T_cmp; case hm => exact rfl) | apply T_not | apply T_bop
    | exact hl2
    | assumption
    | fail
    | exact of_decide_eq_true rfl
    | exact rfl)
      · repeat' (first
    | exact E_int | exact E_str | exact E_none | exact E_bool
    | exact E_name rfl rfl
    | apply E_bin | apply E_neg | (apply E_sub; case hs => (intro _ _ _ _ h; cases h))
    | apply E_tup | apply E_list | exact L_nil | (apply L_cons; case hs => (intro _ _ h; cases h))
    | (apply E_bi; (case hb => exact rfl); (case hf => kernel_rfl); (case hg => exact ⟨rfl, rfl, of_decide_eq_true rfl⟩))
    | (apply E_call; (case hf => kernel_rfl); (case hg => exact ⟨rfl, rfl, of_decide_eq_true rfl⟩))
    | exact O_add | exact O_sub | apply O_mul | apply O_div | apply O_mod
    | (apply T_cmp; case hm => exact rfl) | apply T_not | apply T_bop
    | fail
    | assumption
    | exact i2
    | exact of_decide_eq_true rfl
    | exact rfl)
    exact ⟨_, .inl rfl, dn, e1, rfl, x1.trans x2, g3, Nat.le_trans x1.len l3⟩
section
variable {σ : Store} {n : Nat}
theorem O_idxI {vs : List V} {v : V} {i : Int} (h : σ[n]? = some (.list vs)) (h0 : 0 ≤ i) (h1 : i < 2 ^ 62) (hv : vs[i.toNat]? = some v) : getitem (.obj n) (.int i) σ = some v := by
  refine O_idx h ?_
  unfold at?
  rw [if_pos h0, if_pos h1, hv]
theorem O_lenL {vs : List V} (h : σ[n]? = some (.list vs)) (hl : vs.length < lim) : biCall .len [.obj n] σ = some (.int vs.length, σ) := by
  delta biCall; dsimp only; simp only [h]
  exact if_pos hl
end
noncomputable def ixL {α : Type} (l : List α) (i : Int) : Option α := if 0 ≤ i ∧ i < 2 ^ 62 then l[i.toNat]? else none
theorem ixL_get {σ : Store} {n : Nat} {vals : List Q2} {i : Int} {q : Q2} (h : σ[n]? = some (.list (vals.map qV))) (hi : ixL vals i = some q) : getitem (.obj n) (.int i) σ = some (qV q) := by
  unfold ixL at hi
  split at hi
  · rename_i hc
    exact O_idxI h hc.1 hc.2 (by rw [List.getElem?_map, hi]; rfl)
  · cases hi
noncomputable def ratioR (vals : List Q2) (o : Int) : Option Q2 := if 3 < o then (match ixL vals (vals.length - o + 2), ixL vals (vals.length - 2) with
  | some c, some d => rmulL c d
  | _, _ => none) else some (1, 1)
noncomputable def ratioL (vals : List Q2) (o al be : Int) : Option Q2 := if vals.length < lim then (match ixL vals (vals.length - o + 1), ixL vals (vals.length - 1), ixL vals (vals.length - o) with
  | some a, some b, some z => (match rmulL a b with
    | some ab => (match rmulL (al, 1) ab with
      | some left => (match ratioR vals o with
        | some right => (match rmulL (be, 1) right with
          | some r2 => (match raddL left r2 with
            | some num => rdivL num z
            | none => none)
          | none => none)
        | none => none)
      | none => none)
    | none => none)
  | _, _, _ => none) else none
theorem law_ratio_spec {m vn : Nat} {vals : List Q2} {o al be : Int} {q : Q2} {σ : Store} (hv : σ[vn]? = some (.list (vals.map qV))) (h : ratioL vals o al be = some q) : callF P0 (m + 4) (Str.ofString "_law_ratio") [.obj vn, .int o, .int al, .int be] σ = some (qV q, σ) := by
  unfold ratioL at h
  split at h
  rotate_left
  · first | exact no_some h | cases h
  rename_i hl
  have hlen : biCall .len [.obj vn] σ = some (.int vals.length, σ) := by
    have := O_lenL hv (by simpa using hl)
    simpa using this
  split at h
  rotate_left
  · first | exact no_some h | cases h
  rename_i a b z ha hb hz
  split at h
  rotate_left
  · first | exact no_some h | cases h
  rename_i ab hab
  split at h
  rotate_left
  · first | exact no_some h | cases h
  rename_i left hleft
  split at h
  rotate_left
  · first | exact no_some h | cases h
  rename_i right hright
  split at h
  rotate_left
  · first | exact no_some h | cases h
  rename_i r2 hr2
  split at h
  rotate_left
  · first | exact no_some h | cases h
  rename_i num hnum
  have i1 := ixL_get hv ha
  have i2 := ixL_get hv hb
  have i3 := ixL_get hv hz
  have c1 := rmul_spec (n := m) (σ := σ) hab
  have c2 := rmul_spec (n := m) (σ := σ) hleft
  have c4 := rmul_spec (n := m) (σ := σ) hr2
  have c5 := radd_spec (n := m) (σ := σ) hnum
  have c6 := rdiv_spec (n := m) (σ := σ) h
  apply call_in find_law_ratio ok_law_ratio
  · exact rfl
  · apply S_asg
    · repeat' (first
    | exact E_int | exact E_str | exact E_none | exact E_bool
    | exact E_name rfl rfl
    | apply E_bin | apply E_neg | (apply E_sub; case hs => (intro _ _ _ _ h; cases h))
    | apply E_tup | apply E_list | exact L_nil | (apply L_cons; case hs => (intro _ _ h; cases h))
    | (apply E_bi; (case hb => exact rfl); (case hf => kernel_rfl); (case hg => exact ⟨rfl, rfl, of_decide_eq_true rfl⟩))
    | (apply E_call; (case hf => kernel_rfl); (case hg => exact ⟨rfl, rfl, of_decide_eq_true rfl⟩))
    | exact O_add | exact O_sub | apply O_mul | apply O_div | apply O_mod
    | (apply T_cmp; case hm => exact rfl) | apply T_not | apply T_bop
    | exact hlen
    | assumption
    | fail
    | exact of_decide_eq_true rfl
    | exact rfl)
    · exact rfl
    · exact .inl rfl
    apply S_asg
    · repeat' (first
    | exact E_int | exact E_str | exact E_none | exact E_bool
    | exact E_name rfl rfl
    | apply E_bin | apply E_neg | (apply E_sub; case hs => (intro _ _ _ _ h; cases h))
    | apply E_tup | apply E_list | exact L_nil | (apply L_cons; case hs => (intro _ _ h; cases h))
    | (apply E_bi; (case hb => exact rfl); (case hf => kernel_rfl); (case hg => exact ⟨rfl, rfl, of_decide_eq_true rfl⟩))
    | (apply E_call; (case hf => kernel_rfl); (case hg => exact ⟨rfl, rfl, of_decide_eq_true rfl⟩))
    | exact O_add | exact O_sub | apply O_mul | apply O_div | apply O_mod
    | (apply T_cmp; case hm => exact rfl) | apply T_not | apply T_bop
    | exact c1 | exact c2
    | assumption
    | exact i1 | exact i2
    | exact of_decide_eq_true rfl
    | exact rfl)
    · exact rfl
    · exact .inl rfl
    unfold ratioR at hright
    split at hright
    · rename_i h3
      have h3' := decide_eq_true h3
      split at hright
      rotate_left
      · cases hright
      rename_i c dd hc hd
      have i4 := ixL_get hv hc
      have i5 := ixL_get hv hd
      have c3 := rmul_spec (n := m) (σ := σ) hright
      apply S_asg
      · apply E_ifT
        · repeat' (first
    | exact E_int | exact E_str | exact E_none | exact E_bool
    | exact E_name rfl rfl
    | apply E_bin | apply E_neg | (apply E_sub; case hs => (intro _ _ _ _ h; cases h))
    | apply E_tup | apply E_list | exact L_nil | (apply L_cons; case hs => (intro _ _ h; cases h))
    | (apply E_bi; (case hb => exact rfl); (case hf => kernel_rfl); (case hg => exact ⟨rfl, rfl, of_decide_eq_true rfl⟩))
    | (apply E_call; (case hf => kernel_rfl); (case hg => exact ⟨rfl, rfl, of_decide_eq_true rfl⟩))
    | exact O_add | exact O_sub | apply O_mul | apply O_div | apply O_mod
    | (apply T_cmp; case hm => exact rfl) | apply T_not | apply T_bop
    | fail
    | assumption
    | fail
    | exact of_decide_eq_true rfl
    | exact rfl)
        · repeat' (first
    | exact E_int | exact E_str | exact E_none | exact E_bool
    | exact E_name rfl rfl
    | apply E_bin | apply E_neg | (apply E_sub; case hs => (intro _ _ _ _ h; cases h))
    | apply E_tup | apply E_list | exact L_nil | (apply L_cons; case hs => (intro _ _ h; cases h))
    | (apply E_bi; (case hb => exact rfl); (case hf => kernel_rfl); (case hg => exact ⟨rfl, rfl, of_decide_eq_true rfl⟩))
    | (apply E_call; (case hf => kernel_rfl); (case hg => exact ⟨rfl, rfl, of_decide_eq_true rfl⟩))
    | exact O_add | exact O_sub | apply O_mul | apply O_div | apply O_mod
    | (apply T_cmp; case hm => exact rfl) | apply T_not | apply T_bop
    | exact c3
    | assumption
    | exact i4 | exact i5
    | exact of_decide_eq_true rfl
    | exact rfl)
      · exact rfl
      · exact .inl rfl
      apply S_ret
      repeat' (first
    | exact E_int | exact E_str | exact E_none | exact E_bool
    | exact E_name rfl rfl
    | apply E_bin | apply E_neg | (apply E_sub; case hs => (intro _ _ _ _ h; cases h))
    | apply E_tup | apply E_list | exact L_nil | (apply L_cons; case hs => (intro _ _ h; cases h))
    | (apply E_bi; (case hb => exact rfl); (case hf => kernel_rfl); (case hg => exact ⟨rfl, rfl, of_decide_eq_true rfl⟩))
    | (apply E_call; (case hf => kernel_rfl); (case hg => exact ⟨rfl, rfl, of_decide_eq_true rfl⟩))
    | exact O_add | exact O_sub | apply O_mul | apply O_div | apply O_mod
    | (apply T_cmp; case hm => exact rfl) | apply T_not | apply T_bop
    | exact c4 | exact c5 | exact c6
    | assumption
    | exact i3
    | exact of_decide_eq_true rfl
    | exact rfl)
    · rename_i h3
      have h3' := decide_eq_false h3
      cases hright
      apply S_asg
      · apply E_ifF
        · repeat' (first
    | exact E_int | exact E_str | exact E_none | exact E_bool
    | exact E_name rfl rfl
    | apply E_bin | apply E_neg | (apply E_sub; case hs => (intro _ _ _ _ h; cases h))
    | apply E_tup | apply E_list | exact L_nil | (apply L_cons; case hs => (intro _ _ h; cases h))
    | (apply E_bi; (case hb => exact rfl); (case hf => kernel_rfl); (case hg => exact ⟨rfl, rfl, of_decide_eq_true rfl⟩))
    | (apply E_call; (case hf => kernel_rfl); (case hg => exact ⟨rfl, rfl, of_decide_eq_true rfl⟩))
    | exact O_add | exact O_sub | apply O_mul | apply O_div | apply O_mod
    | (apply T_cmp; case hm => exact rfl) | apply T_not | apply T_bop
    | fail
    | assumption
    | fail
    | exact of_decide_eq_true rfl
    | exact rfl)
        · repeat' (first
    | exact E_int | exact E_str | exact E_none | exact E_bool
    | exact E_name rfl rfl
    | apply E_bin | apply E_neg | (apply E_sub; case hs => (intro _ _ _ _ h; cases h))
    | apply E_tup | apply E_list | exact L_nil | (apply L_cons; case hs => (intro _ _ h; cases h))
    | (apply E_bi; (case hb => exact rfl); (case hf => kernel_rfl); (case hg => exact ⟨rfl, rfl, of_decide_eq_true rfl⟩))
    | (apply E_call; (case hf => kernel_rfl); (case hg => exact ⟨rfl, rfl, of_decide_eq_true rfl⟩))
    | exact O_add | exact O_sub | apply O_mul | apply O_div | apply O_mod
    | (apply T_cmp; case hm => exact rfl) | apply T_not | apply T_bop
    | fail
    | assumption
    | fail
    | exact of_decide_eq_true rfl
    | exact rfl)
      · exact rfl
      · exact .inl rfl
      apply S_ret
      repeat' (first
    | exact E_int | exact E_str | exact E_none | exact E_bool
    | exact E_name rfl rfl
    | apply E_bin | apply E_neg | (apply E_sub; case hs => (intro _ _ _ _ h; cases h))
    | apply E_tup | apply E_list | exact L_nil | (apply L_cons; case hs => (intro _ _ h; cases h))
    | (apply E_bi; (case hb => exact rfl); (case hf => kernel_rfl); (case hg => exact ⟨rfl, rfl, of_decide_eq_true rfl⟩))
    | (apply E_call; (case hf => kernel_rfl); (case hg => exact ⟨rfl, rfl, of_decide_eq_true rfl⟩))
    | exact O_add | exact O_sub | apply O_mul | apply O_div | apply O_mod
    | (apply T_cmp; case hm => exact rfl) | apply T_not | apply T_bop
    | exact c4 | exact c5 | exact c6
    | assumption
    | exact i3
    | exact of_decide_eq_true rfl
    | exact rfl)
  · exact .inl rfl
/-- the rows of the law, in the store -/
noncomputable def RowOK (σ : Store) (rvs : List V) (rows : List (PL × Q2)) : Prop := rvs.length = rows.length ∧ ∀ (i : Nat) (r : PL × Q2), rows[i]? = some r → ∃ j ep, rvs[i]? = some (.tup [.obj j, qV r.2]) ∧ σ[j]? = some (.dict (D r.1) ep)
theorem RowOK.ext {σ σ' : Store} {rvs : List V} {rows : List (PL × Q2)} (h : RowOK σ rvs rows) (x : Ext σ σ') : RowOK σ' rvs rows := ⟨h.1, fun i r e => let ⟨j, ep, a, b⟩ := h.2 i r e; ⟨j, ep, a, x _ _ b⟩⟩
theorem RowOK.ix {σ : Store} {n : Nat} {rvs : List V} {rows : List (PL × Q2)} {i : Int} {r : PL × Q2} (h : RowOK σ rvs rows) (hn : σ[n]? = some (.list rvs)) (hi : ixL rows i = some r) : ∃ j ep, getitem (.obj n) (.int i) σ = some (.tup [.obj j, qV r.2]) ∧ σ[j]? = some (.dict (D r.1) ep) := by
  unfold ixL at hi
  split at hi
  · rename_i hc
    obtain ⟨j, ep, a, b⟩ := h.2 _ _ hi
    exact ⟨j, ep, O_idxI hn hc.1 hc.2 a, b⟩
  · cases hi
noncomputable def pairL (rows : List (PL × Q2)) (i j : Int) : Option (PL × Q2) := match ixL rows i, ixL rows j with
  | some a, some b => (match mvmulL a.1 b.1 with
    | some r => some (r, (a.2.1 + b.2.1, a.2.2 + b.2.2))
    | none => none)
  | _, _ => none
noncomputable def FreshT (σ : Store) (r : PL × Q2) (v : V) (σ' : Store) : Prop := ∃ j ep, v = .tup [.obj j, qV r.2] ∧ Ext σ σ' ∧ σ'[j]? = some (.dict (D r.1) ep) ∧ σ.length ≤ j
theorem elimT {call : Option (V × Store)} {σ : Store} {r : PL × Q2} {G : Prop} (h : ∃ v σ', call = some (v, σ') ∧ FreshT σ r v σ') (k : ∀ (σ' : Store) (j ep : Nat), call = some (.tup [.obj j, qV r.2], σ') → Ext σ σ' → σ'[j]? = some (.dict (D r.1) ep) → σ.length ≤ j → G) : G := by
  obtain ⟨v, σ', h1, j, ep, rfl, h2, h3, h4⟩ := h
  exact k σ' j ep h1 h2 h3 h4
theorem law_pair_spec {m rn : Nat} {rvs : List V} {rows : List (PL × Q2)} {i j : Int} {r : PL × Q2} {σ : Store} (hn : σ[rn]? = some (.list rvs)) (ho : RowOK σ rvs rows) (h : pairL rows i j = some r) : ∃ v σ', callF P0 (m + 6) (Str.ofString "_law_pair") [.obj rn, .int i, .int j] σ = some (v, σ') ∧ FreshT σ r v σ' := by
  unfold pairL at h
  split at h
  rotate_left
  · first | exact no_some h | cases h
  rename_i a b ha hb
  split at h
  rotate_left
  · first | exact no_some h | cases h
  rename_i pr hpr
  cases h
  obtain ⟨ja, ea, i1, g1⟩ := ho.ix hn ha
  obtain ⟨jb, eb, i2, g2⟩ := ho.ix hn hb
  refine elimD (mvmul_spec (m := m) g1 g2 hpr) fun σ1 j1 e1 c1 x1 g3 l1 => ?_
  apply call_run _ find_law_pair ok_law_pair
  · exact rfl
  · apply R_tupS
    · repeat' (first
    | exact E_int | exact E_str | exact E_none | exact E_bool
    | exact E_name rfl rfl
    | apply E_bin | apply E_neg | (apply E_sub; case hs => (intro _ _ _ _ h; cases h))
    | apply E_tup | apply E_list | exact L_nil | (apply L_cons; case hs => (intro _ _ h; cases h))
    | (apply E_bi; (case hb => exact rfl); (case hf => kernel_rfl); (case hg => exact ⟨rfl, rfl, of_decide_eq_true rfl⟩))
    | (apply E_call; (case hf => kernel_rfl); (case hg => exact ⟨rfl, rfl, of_decide_eq_true rfl⟩))
    | exact O_add | exact O_sub | apply O_mul | apply O_div | apply O_mod
    | (apply T_cmp; case hm => exact rfl) | apply T_not | apply T_bop
    | fail
    | assumption
    | exact i1 | exact i2
    | exact of_decide_eq_true rfl
    | exact rfl)
    · exact rfl
    · exact ⟨by decide +kernel, rfl, by decide +kernel⟩
    apply R_ret
    · repeat' (first
    | exact E_int | exact E_str | exact E_none | exact E_bool
    | exact E_name rfl rfl
    | apply E_bin | apply E_neg | (apply E_sub; case hs => (intro _ _ _ _ h; cases h))
    | apply E_tup | apply E_list | exact L_nil | (apply L_cons; case hs => (intro _ _ h; cases h))
    | (apply E_bi; (case hb => exact rfl); (case hf => kernel_rfl); (case hg => exact ⟨rfl, rfl, of_decide_eq_true rfl⟩))
    | (apply E_call; (case hf => kernel_rfl); (case hg => exact ⟨rfl, rfl, of_decide_eq_true rfl⟩))
    | exact O_add | exact O_sub | apply O_mul | apply O_div | apply O_mod
    | (apply T_cmp; case hm => exact rfl) | apply T_not | apply T_bop
    | exact c1
    | assumption
    | fail
    | exact of_decide_eq_true rfl
    | exact rfl)
    exact ⟨_, .inl rfl, j1, e1, rfl, x1, g3, l1⟩
end Mine
set_option maxHeartbeats 8000000
namespace Mine
open PySem PyProof.Rows
noncomputable def sub2 (a b : Q2) : Q2 := (a.1 - b.1, a.2 - b.2)
noncomputable def nextR (rows : List (PL × Q2)) (o : Int) : Option (PL × Q2) := if 3 < o then pairL rows (rows.length - o + 2) (rows.length - 2) else some ([((0, 0), (1, 1))], (0, 0))
noncomputable def nextL (rows : List (PL × Q2)) (o al be : Int) : Option (PL × Q2) := if rows.length < lim then (match pairL rows (rows.length - o + 1) (rows.length - 1), nextR rows o, ixL rows (rows.length - o) with
  | some l, some r, some z => (match mvshiftL l.1 (sub2 (mx l.2.1 r.2.1, mx l.2.2 r.2.2) l.2) (al, 1) with
    | some s1 => (match mvshiftL r.1 (sub2 (mx l.2.1 r.2.1, mx l.2.2 r.2.2) r.2) (be, 1) with
      | some s2 => (match mvaddL s1 s2 with
        | some t => (match (if o ≤ rows.length - o then exactL t z.1 else some t) with
          | some t2 => some (t2, sub2 (mx l.2.1 r.2.1, mx l.2.2 r.2.2) z.2)
          | none => none)
        | none => none)
      | none => none)
    | none => none)
  | _, _, _ => none) else none
theorem law_next_spec {m rn : Nat} {rvs : List V} {rows : List (PL × Q2)} {o al be : Int} {r : PL × Q2} {σ : Store} (hn : σ[rn]? = some (.list rvs)) (ho : RowOK σ rvs rows) (h : nextL rows o al be = some r) : ∃ v σ', callF P0 (m + 9) (Str.ofString "_law_next") [.obj rn, .int o, .int al, .int be] σ = some (v, σ') ∧ FreshT σ r v σ' := by
  unfold nextL at h
  split at h
  rotate_left
  · first | exact no_some h | cases h
  rename_i hl
  have hlen : ∀ σ' : Store, σ'[rn]? = some (.list rvs) → biCall .len [.obj rn] σ' = some (.int rows.length, σ') := fun σ' hh => by
    have := O_lenL hh (by rw [ho.1]; exact hl)
    rwa [ho.1] at this
  have hlen0 := hlen σ hn
  split at h
  rotate_left
  · first | exact no_some h | cases h
  rename_i l rr z hpl hpr hz
  split at h
  rotate_left
  · first | exact no_some h | cases h
  rename_i s1 hs1
  split at h
  rotate_left
  · first | exact no_some h | cases h
  rename_i s2 hs2
  split at h
  rotate_left
  · first | exact no_some h | cases h
  rename_i t ht
  split at h
  rotate_left
  · first | exact no_some h | cases h
  rename_i t2 ht2
  cases h
  refine elimT (law_pair_spec (m := m + 2) hn ho hpl) fun σ1 j1 e1 c1 x1 g1 l1 => ?_
  have tail : ∀ (σ2 : Store) (j2 e2 : Nat), Ext σ1 σ2 → σ2[j2]? = some (.dict (D rr.1) e2) →
      Run ⟨fun g => (P0.find g).isSome, P0.gl, callF P0 (m + 8)⟩ 39 ⟨(recAt 40).scope.names, []⟩ ((recAt 40).body.drop 3) [(Str.ofString "row", some (.obj rn)), (Str.ofString "order", some (.int o)), (Str.ofString "alpha", some (.int al)), (Str.ofString "beta", some (.int be)), (Str.ofString "n", some (.int rows.length)), (Str.ofString "left", some (.obj j1)), (Str.ofString "below", some (qV l.2)), (Str.ofString "right", some (.obj j2)), (Str.ofString "under", some (qV rr.2)), (Str.ofString "high", Option.none), (Str.ofString "total", Option.none)] σ2 (fun fl _ σ' => ∃ v, (fl = .ret v ∨ (fl = .next ∧ v = .none)) ∧ FreshT σ (t2, sub2 (mx l.2.1 rr.2.1, mx l.2.2 rr.2.2) z.2) v σ') := by
    intro σ2 j2 e2 x2 g2
    have X2 := x1.trans x2
    apply R_asg
    · repeat' (first
    | exact E_int | exact E_str | exact E_none | exact E_bool
    | exact E_name rfl rfl
    | apply E_bin | apply E_neg | (apply E_sub; case hs => (intro _ _ _ _ h; cases h))
    | apply E_tup | apply E_list | exact L_nil | (apply L_cons; case hs => (intro _ _ h; cases h))
    | (apply E_bi; (case hb => exact rfl); (case hf => kernel_rfl); (case hg => exact ⟨rfl, rfl, of_decide_eq_true rfl⟩))
    | (apply E_call; (case hf => kernel_rfl); (case hg => exact ⟨rfl, rfl, of_decide_eq_true rfl⟩))
    | exact O_add | exact O_sub | apply O_mul | apply O_div | apply O_mod
    | (apply T_cmp; case hm => exact rfl) | apply T_not | apply T_bop
    | fail
    | assumption
    | fail
    | exact of_decide_eq_true rfl
    | exact rfl)
    · exact rfl
    · exact .inl rfl
    have ga := law_gap_spec (n := m + 7) (a := (mx l.2.1 rr.2.1, mx l.2.2 rr.2.2)) (b := l.2) (σ := σ2)
    refine elimD (mvshift_spec (m := m + 4) (x2 _ _ g1) hs1) fun σ3 j3 e3 c3 x3 g3 l3 => ?_
    have gb := law_gap_spec (n := m + 7) (a := (mx l.2.1 rr.2.1, mx l.2.2 rr.2.2)) (b := rr.2) (σ := σ3)
    refine elimD (mvshift_spec (m := m + 4) (x3 _ _ g2) hs2) fun σ4 j4 e4 c4 x4 g4 l4 => ?_
    refine elimD (mvadd_spec (m := m + 3) (x4 _ _ g3) g4 ht) fun σ5 j5 e5 c5 x5 g5 l5 => ?_
    apply R_asg
    · repeat' (first
    | exact E_int | exact E_str | exact E_none | exact E_bool
    | exact E_name rfl rfl
    | apply E_bin | apply E_neg | (apply E_sub; case hs => (intro _ _ _ _ h; cases h))
    | apply E_tup | apply E_list | exact L_nil | (apply L_cons; case hs => (intro _ _ h; cases h))
    | (apply E_bi; (case hb => exact rfl); (case hf => kernel_rfl); (case hg => exact ⟨rfl, rfl, of_decide_eq_true rfl⟩))
    | (apply E_call; (case hf => kernel_rfl); (case hg => exact ⟨rfl, rfl, of_decide_eq_true rfl⟩))
    | exact O_add | exact O_sub | apply O_mul | apply O_div | apply O_mod
    | (apply T_cmp; case hm => exact rfl) | apply T_not | apply T_bop
    | exact ga | exact gb | exact c3 | exact c4 | exact c5
    | assumption
    | fail
    | exact of_decide_eq_true rfl
    | exact rfl)
    · exact rfl
    · exact .inl rfl
    have X5 := X2.trans (x3.trans (x4.trans x5))
    obtain ⟨jz, ez, iz, gz⟩ := (ho.ext X5).ix (X5 _ _ hn) hz
    have L2 := X2.len
    have L3 := x3.len
    have L4 := x4.len
    split at ht2
    · rename_i hle
      have hle' := decide_eq_true hle
      refine elimD (mvexact_spec (m := m) g5 gz ht2) fun σ6 j6 e6 c6 x6 g6 l6 => ?_
      obtain ⟨jz2, ez2, iz2, gz2⟩ := (ho.ext (X5.trans x6)).ix ((X5.trans x6) _ _ hn) hz
      have gc := law_gap_spec (n := m + 7) (a := (mx l.2.1 rr.2.1, mx l.2.2 rr.2.2)) (b := z.2) (σ := σ6)
      have L5 := X5.len
      apply R_ifT
      · repeat' (first
    | exact E_int | exact E_str | exact E_none | exact E_bool
    | exact E_name rfl rfl
    | apply E_bin | apply E_neg | (apply E_sub; case hs => (intro _ _ _ _ h; cases h))
    | apply E_tup | apply E_list | exact L_nil | (apply L_cons; case hs => (intro _ _ h; cases h))
    | (apply E_bi; (case hb => exact rfl); (case hf => kernel_rfl); (case hg => exact ⟨rfl, rfl, of_decide_eq_true rfl⟩))
    | (apply E_call; (case hf => kernel_rfl); (case hg => exact ⟨rfl, rfl, of_decide_eq_true rfl⟩))
    | exact O_add | exact O_sub | apply O_mul | apply O_div | apply O_mod
    | (apply T_cmp; case hm => exact rfl) | apply T_not | apply T_bop
    | fail
    | assumption
    | fail
    | exact of_decide_eq_true rfl
    | exact rfl)
      · apply X_s
        apply S_asg
        · repeat' (first
    | exact E_int | exact E_str | exact E_none | exact E_bool
    | exact E_name rfl rfl
    | apply E_bin | apply E_neg | (apply E_sub; case hs => (intro _ _ _ _ h; cases h))
    | apply E_tup | apply E_list | exact L_nil | (apply L_cons; case hs => (intro _ _ h; cases h))
    | (apply E_bi; (case hb => exact rfl); (case hf => kernel_rfl); (case hg => exact ⟨rfl, rfl, of_decide_eq_true rfl⟩))
    | (apply E_call; (case hf => kernel_rfl); (case hg => exact ⟨rfl, rfl, of_decide_eq_true rfl⟩))
    | exact O_add | exact O_sub | apply O_mul | apply O_div | apply O_mod
    | (apply T_cmp; case hm => exact rfl) | apply T_not | apply T_bop
    | exact c6
    | assumption
    | exact iz
    | exact of_decide_eq_true rfl
    | exact rfl)
        · exact rfl
        · exact .inl rfl
        · exact S_nil
      apply R_ret
      · apply E_ifF
        · repeat' (first
    | exact E_int | exact E_str | exact E_none | exact E_bool
    | exact E_name rfl rfl
    | apply E_bin | apply E_neg | (apply E_sub; case hs => (intro _ _ _ _ h; cases h))
    | apply E_tup | apply E_list | exact L_nil | (apply L_cons; case hs => (intro _ _ h; cases h))
    | (apply E_bi; (case hb => exact rfl); (case hf => kernel_rfl); (case hg => exact ⟨rfl, rfl, of_decide_eq_true rfl⟩))
    | (apply E_call; (case hf => kernel_rfl); (case hg => exact ⟨rfl, rfl, of_decide_eq_true rfl⟩))
    | exact O_add | exact O_sub | apply O_mul | apply O_div | apply O_mod
    | (apply T_cmp; case hm => exact rfl) | apply T_not | apply T_bop
    | fail
    | assumption
    | fail
    | exact of_decide_eq_true rfl
    | exact rfl)
        · repeat' (first
    | exact E_int | exact E_str | exact E_none | exact E_bool
    | exact E_name rfl rfl
    | apply E_bin | apply E_neg | (apply E_sub; case hs => (intro _ _ _ _ h; cases h))
    | apply E_tup | apply E_list | exact L_nil | (apply L_cons; case hs => (intro _ _ h; cases h))
    | (apply E_bi; (case hb => exact rfl); (case hf => kernel_rfl); (case hg => exact ⟨rfl, rfl, of_decide_eq_true rfl⟩))
    | (apply E_call; (case hf => kernel_rfl); (case hg => exact ⟨rfl, rfl, of_decide_eq_true rfl⟩))
    | exact O_add | exact O_sub | apply O_mul | apply O_div | apply O_mod
    | (apply T_cmp; case hm => exact rfl) | apply T_not | apply T_bop
    | exact gc
    | assumption
    | exact iz2
    | exact of_decide_eq_true rfl
    | exact rfl)
      exact ⟨_, .inl rfl, j6, e6, rfl, X5.trans x6, g6, by exact Nat.le_trans L5 l6⟩
    · rename_i hle
      have hle' := decide_eq_false hle
      cases ht2
      have gc := law_gap_spec (n := m + 7) (a := (mx l.2.1 rr.2.1, mx l.2.2 rr.2.2)) (b := z.2) (σ := σ5)
      apply R_ifF
      · repeat' (first
    | exact E_int | exact E_str | exact E_none | exact E_bool
    | exact E_name rfl rfl
    | apply E_bin | apply E_neg | (apply E_sub; case hs => (intro _ _ _ _ h; cases h))
    | apply E_tup | apply E_list | exact L_nil | (apply L_cons; case hs => (intro _ _ h; cases h))
    | (apply E_bi; (case hb => exact rfl); (case hf => kernel_rfl); (case hg => exact ⟨rfl, rfl, of_decide_eq_true rfl⟩))
    | (apply E_call; (case hf => kernel_rfl); (case hg => exact ⟨rfl, rfl, of_decide_eq_true rfl⟩))
    | exact O_add | exact O_sub | apply O_mul | apply O_div | apply O_mod
    | (apply T_cmp; case hm => exact rfl) | apply T_not | apply T_bop
    | fail
    | assumption
    | fail
    | exact of_decide_eq_true rfl
    | exact rfl)
      · exact X_s S_nil
      apply R_ret
      · apply E_ifF
        · repeat' (first
    | exact E_int | exact E_str | exact E_none | exact E_bool
    | exact E_name rfl rfl
    | apply E_bin | apply E_neg | (apply E_sub; case hs => (intro _ _ _ _ h; cases h))
    | apply E_tup | apply E_list | exact L_nil | (apply L_cons; case hs => (intro _ _ h; cases h))
    | (apply E_bi; (case hb => exact rfl); (case hf => kernel_rfl); (case hg => exact ⟨rfl, rfl, of_decide_eq_true rfl⟩))
    | (apply E_call; (case hf => kernel_rfl); (case hg => exact ⟨rfl, rfl, of_decide_eq_true rfl⟩))
    | exact O_add | exact O_sub | apply O_mul | apply O_div | apply O_mod
    | (apply T_cmp; case hm => exact rfl) | apply T_not | apply T_bop
    | fail
    | assumption
    | fail
    | exact of_decide_eq_true rfl
    | exact rfl)
        · repeat' (first
    | exact E_int | exact E_str | exact E_none | exact E_bool
    | exact E_name rfl rfl
    | apply E_bin | apply E_neg | (apply E_sub; case hs => (intro _ _ _ _ h; cases h))
    | apply E_tup | apply E_list | exact L_nil | (apply L_cons; case hs => (intro _ _ h; cases h))
    | (apply E_bi; (case hb => exact rfl); (case hf => kernel_rfl); (case hg => exact ⟨rfl, rfl, of_decide_eq_true rfl⟩))
    | (apply E_call; (case hf => kernel_rfl); (case hg => exact ⟨rfl, rfl, of_decide_eq_true rfl⟩))
    | exact O_add | exact O_sub | apply O_mul | apply O_div | apply O_mod
    | (apply T_cmp; case hm => exact rfl) | apply T_not | apply T_bop
    | exact gc
    | assumption
    | exact iz
    | exact of_decide_eq_true rfl
    | exact rfl)
      exact ⟨_, .inl rfl, j5, e5, rfl, X5, g5, by exact ar159 l5 L2 L3 L4⟩
  apply call_run _ find_law_next ok_law_next
  · exact rfl
  · apply R_asg
    · repeat' (first
    | exact E_int | exact E_str | exact E_none | exact E_bool
    | exact E_name rfl rfl
    | apply E_bin | apply E_neg | (apply E_sub; case hs => (intro _ _ _ _ h; cases h))
    | apply E_tup | apply E_list | exact L_nil | (apply L_cons; case hs => (intro _ _ h; cases h))
    | (apply E_bi; (case hb => exact rfl); (case hf => kernel_rfl); (case hg => exact ⟨rfl, rfl, of_decide_eq_true rfl⟩))
    | (apply E_call; (case hf => kernel_rfl); (case hg => exact ⟨rfl, rfl, of_decide_eq_true rfl⟩))
    | exact O_add | exact O_sub | apply O_mul | apply O_div | apply O_mod
    | (apply T_cmp; case hm => exact rfl) | apply T_not | apply T_bop
    | exact hlen0
    | assumption
    | fail
    | exact of_decide_eq_true rfl
    | exact rfl)
    · exact rfl
    · exact .inl rfl
    apply R_tupS
    · repeat' (first
    | exact E_int | exact E_str | exact E_none | exact E_bool
    | exact E_name rfl rfl
    | apply E_bin | apply E_neg | (apply E_sub; case hs => (intro _ _ _ _ h; cases h))
    | apply E_tup | apply E_list | exact L_nil | (apply L_cons; case hs => (intro _ _ h; cases h))
    | (apply E_bi; (case hb => exact rfl); (case hf => kernel_rfl); (case hg => exact ⟨rfl, rfl, of_decide_eq_true rfl⟩))
    | (apply E_call; (case hf => kernel_rfl); (case hg => exact ⟨rfl, rfl, of_decide_eq_true rfl⟩))
    | exact O_add | exact O_sub | apply O_mul | apply O_div | apply O_mod
    | (apply T_cmp; case hm => exact rfl) | apply T_not | apply T_bop
    | exact c1
    | assumption
    | fail
    | exact of_decide_eq_true rfl
    | exact rfl)
    · exact rfl
    · exact ⟨by decide +kernel, rfl, by decide +kernel⟩
    unfold nextR at hpr
    split at hpr
    · rename_i h3
      have h3' := decide_eq_true h3
      refine elimT (law_pair_spec (m := m + 2) (x1 _ _ hn) (ho.ext x1) hpr) fun σ2 j2 e2 c2 x2 g2 l2 => ?_
      apply R_tupS
      · apply E_ifT
        · repeat' (first
    | exact E_int | exact E_str | exact E_none | exact E_bool
    | exact E_name rfl rfl
    | apply E_bin | apply E_neg | (apply E_sub; case hs => (intro _ _ _ _ h; cases h))
    | apply E_tup | apply E_list | exact L_nil | (apply L_cons; case hs => (intro _ _ h; cases h))
    | (apply E_bi; (case hb => exact rfl); (case hf => kernel_rfl); (case hg => exact ⟨rfl, rfl, of_decide_eq_true rfl⟩))
    | (apply E_call; (case hf => kernel_rfl); (case hg => exact ⟨rfl, rfl, of_decide_eq_true rfl⟩))
    | exact O_add | exact O_sub | apply O_mul | apply O_div | apply O_mod
    | (apply T_cmp; case hm => exact rfl) | apply T_not | apply T_bop
    | fail
    | assumption
    | fail
    | exact of_decide_eq_true rfl
    | exact rfl)
        · repeat' (first
    | exact E_int | exact E_str | exact E_none | exact E_bool
    | exact E_name rfl rfl
    | apply E_bin | apply E_neg | (apply E_sub; case hs => (intro _ _ _ _ h; cases h))
    | apply E_tup | apply E_list | exact L_nil | (apply L_cons; case hs => (intro _ _ h; cases h))
    | (apply E_bi; (case hb => exact rfl); (case hf => kernel_rfl); (case hg => exact ⟨rfl, rfl, of_decide_eq_true rfl⟩))
    | (apply E_call; (case hf => kernel_rfl); (case hg => exact ⟨rfl, rfl, of_decide_eq_true rfl⟩))
    | exact O_add | exact O_sub | apply O_mul | apply O_div | apply O_mod
    | (apply T_cmp; case hm => exact rfl) | apply T_not | apply T_bop
    | exact c2
    | assumption
    | fail
    | exact of_decide_eq_true rfl
    | exact rfl)
      · exact rfl
      · exact ⟨by decide +kernel, rfl, by decide +kernel⟩
      exact tail σ2 j2 e2 x2 g2
    · rename_i h3
      have h3' := decide_eq_false h3
      cases hpr
      apply R_tupS
      · apply E_ifF
        · repeat' (first
    | exact E_int | exact E_str | exact E_none | exact E_bool
    | exact E_name rfl rfl
    | apply E_bin | apply E_neg | (apply E_sub; case hs => (intro _ _ _ _ h; cases h))
    | apply E_tup | apply E_list | exact L_nil | (apply L_cons; case hs => (intro _ _ h; cases h))
    | (apply E_bi; (case hb => exact rfl); (case hf => kernel_rfl); (case hg => exact ⟨rfl, rfl, of_decide_eq_true rfl⟩))
    | (apply E_call; (case hf => kernel_rfl); (case hg => exact ⟨rfl, rfl, of_decide_eq_true rfl⟩))
    | exact O_add | exact O_sub | apply O_mul | apply O_div | apply O_mod
    | (apply T_cmp; case hm => exact rfl) | apply T_not | apply T_bop
    | fail
    | assumption
    | fail
    | exact of_decide_eq_true rfl
    | exact rfl)
        · apply E_tup
          · apply L_cons
            · intro _ _ h; cases h
            · apply E_dict1
              · repeat' (first
    | exact E_int | exact E_str | exact E_none | exact E_bool
    | exact E_name rfl rfl
    | apply E_bin | apply E_neg | (apply E_sub; case hs => (intro _ _ _ _ h; cases h))
    | apply E_tup | apply E_list | exact L_nil | (apply L_cons; case hs => (intro _ _ h; cases h))
    | (apply E_bi; (case hb => exact rfl); (case hf => kernel_rfl); (case hg => exact ⟨rfl, rfl, of_decide_eq_true rfl⟩))
    | (apply E_call; (case hf => kernel_rfl); (case hg => exact ⟨rfl, rfl, of_decide_eq_true rfl⟩))
    | exact O_add | exact O_sub | apply O_mul | apply O_div | apply O_mod
    | (apply T_cmp; case hm => exact rfl) | apply T_not | apply T_bop
    | fail
    | assumption
    | fail
    | exact of_decide_eq_true rfl
    | exact rfl)
              · repeat' (first
    | exact E_int | exact E_str | exact E_none | exact E_bool
    | exact E_name rfl rfl
    | apply E_bin | apply E_neg | (apply E_sub; case hs => (intro _ _ _ _ h; cases h))
    | apply E_tup | apply E_list | exact L_nil | (apply L_cons; case hs => (intro _ _ h; cases h))
    | (apply E_bi; (case hb => exact rfl); (case hf => kernel_rfl); (case hg => exact ⟨rfl, rfl, of_decide_eq_true rfl⟩))
    | (apply E_call; (case hf => kernel_rfl); (case hg => exact ⟨rfl, rfl, of_decide_eq_true rfl⟩))
    | exact O_add | exact O_sub | apply O_mul | apply O_div | apply O_mod
    | (apply T_cmp; case hm => exact rfl) | apply T_not | apply T_bop
    | fail
    | assumption
    | fail
    | exact of_decide_eq_true rfl
    | exact rfl)
              · exact get_last
              · exact rfl
              · exact of_decide_eq_true rfl
            · repeat' (first
    | exact E_int | exact E_str | exact E_none | exact E_bool
    | exact E_name rfl rfl
    | apply E_bin | apply E_neg | (apply E_sub; case hs => (intro _ _ _ _ h; cases h))
    | apply E_tup | apply E_list | exact L_nil | (apply L_cons; case hs => (intro _ _ h; cases h))
    | (apply E_bi; (case hb => exact rfl); (case hf => kernel_rfl); (case hg => exact ⟨rfl, rfl, of_decide_eq_true rfl⟩))
    | (apply E_call; (case hf => kernel_rfl); (case hg => exact ⟨rfl, rfl, of_decide_eq_true rfl⟩))
    | exact O_add | exact O_sub | apply O_mul | apply O_div | apply O_mod
    | (apply T_cmp; case hm => exact rfl) | apply T_not | apply T_bop
    | fail
    | assumption
    | fail
    | exact of_decide_eq_true rfl
    | exact rfl)
          · exact of_decide_eq_true rfl
      · exact rfl
      · exact ⟨by decide +kernel, rfl, by decide +kernel⟩
      exact tail _ σ1.length 1 (Ext.app.set (Nat.le_refl _)) (get_set get_last)
end Mine
set_option maxHeartbeats 8000000
namespace Mine
open PySem PyProof.Rows
section
variable {T : Tb} {d : Nat} {cx : Cx} {ρ ρ1 : Rho} {σ σ1 σ2 : Store} {Q : Fl → Rho → Store → Prop} {q p pp : Pos} {e e1 e2 : Expr} {r body : List Stmt} {K : V → Store → Prop} {KS : Store → Prop}
theorem R_ifF' (h : Tst T (d + 1) cx e ρ σ false fun σ1 => Run T (d + 1) cx r ρ σ1 Q) : Run T (d + 1) cx (.If e body [] q :: r) ρ σ Q := by
  obtain ⟨σ1, h1, h2⟩ := h
  exact R_ifF h1 (X_s S_nil) h2
theorem Tst_or2 (h1 : (ev T d).t cx e1 ρ σ = some (false, σ1)) (h2 : Tst T d cx e2 ρ σ1 false KS) : Tst T (d + 1) cx (.BoolOp .Or [e1, e2] p) ρ σ false KS := by
  obtain ⟨σ2, h3, h4⟩ := h2
  exact ⟨σ2, T_bop (B_orF h1 (B_orF h3 B_nilO)), h4⟩
theorem Tst_cmp {op : CmpOp} {c : Bool} (hm : behindInMarks op e2 = false) (h : Xp T d cx e1 ρ σ fun a σ1 => Xp T d cx e2 ρ σ1 fun b σ2 => cmp op a b σ2 = some c ∧ KS σ2) : Tst T (d + 1) cx (.Compare e1 [op] [e2] p) ρ σ c KS := by
  obtain ⟨a, σ1, h1, b, σ2, h2, h3, h4⟩ := h
  exact ⟨σ2, T_cmp hm h1 h2 h3 rfl, h4⟩
theorem X_cmp {op : CmpOp} {c : Bool} (hm : behindInMarks op e2 = false) (h : Xp T d cx e1 ρ σ fun a σ1 => Xp T d cx e2 ρ σ1 fun b σ2 => cmp op a b σ2 = some c ∧ K (.bool c) σ2) : Xp T (d + 1) cx (.Compare e1 [op] [e2] p) ρ σ K := by
  obtain ⟨a, σ1, h1, b, σ2, h2, h3, h4⟩ := h
  exact ⟨_, σ2, E_cmp hm h1 h2 h3, h4⟩
theorem X_and2 (h : Xp T d cx e1 ρ σ fun v σ1 => v = .bool true ∧ Xp T d cx e2 ρ σ1 K) : Xp T (d + 1) cx (.BoolOp .And [e1, e2] p) ρ σ K := by
  obtain ⟨v, σ1, h1, rfl, w, σ2, h2, h3⟩ := h
  refine ⟨w, σ2, ?_, h3⟩
  rw [ev_e]
  show (match (generalizing := false) (ev T d).e cx e1 ρ σ with
    | some (.bool b, σ1) => match (generalizing := false) BoolOp.And, b with
      | .And, false => some (V.bool false, σ1)
      | .Or, true => some (.bool true, σ1)
      | _, _ => boolE (ev T d) cx .And [e2] ρ σ1
    | _ => .none) = _
  rw [h1]
  exact h2
theorem O_setL {n : Nat} {vs : List V} {i : Int} {v : V} (h : σ[n]? = some (.list vs)) (h0 : 0 ≤ i ∧ i < vs.length ∧ i < 2 ^ 62) : setitem (.obj n) (.int i) v σ = some (σ.set n (.list (vs.set i.toNat v))) := by
  delta setitem; dsimp only; simp only [h]
  exact if_pos h0
theorem O_ne0 {n m : Nat} (h1 : σ[n]? = some (.list [])) (h2 : σ[m]? = some (.list [])) : cmp .NotEq (.obj n) (.obj m) σ = some false := by
  delta cmp; dsimp only; simp only [h1, h2]
  rfl
theorem O_min {n : Nat} {vs : List V} {y : Int} {r : List Int} (h1 : σ[n]? = some (.list vs)) (h2 : intsOf vs = some (y :: r)) : biCall .min [.obj n] σ = some (.int (minL y r), σ) := by
  delta biCall; dsimp only; simp only [h1, h2]
end
/-- the draws that stand for what the script does not give -/
noncomputable def dflt (i : Nat) : Int := match i with
  | 0 => 1
  | 5 => 1
  | 6 => 2
  | _ => 0
noncomputable def drawL (cs : List Int) (i : Nat) (many : Int) : Int := match cs[i]? with
  | some c => (absI c).fmod many
  | none => (dflt i).fmod many
theorem dflt_at (i : Nat) (h : i < 7) : at? [.int 1, .int 0, .int 0, .int 0, .int 0, .int 1, .int 2] ((i : Int).fmod 7) = some (.int (dflt i)) := by
  match i, h with
  | 0, _ => rfl
  | 1, _ => rfl
  | 2, _ => rfl
  | 3, _ => rfl
  | 4, _ => rfl
  | 5, _ => rfl
  | 6, _ => rfl
  | n + 7, h => omega
theorem draw_spec {m pn sn i : Nat} {cs : List Int} {many : Int} {σ : Store} (hp : σ[pn]? = some (.list [.obj sn, .int i])) (hs : σ[sn]? = some (.list (cs.map V.int))) (hne : sn ≠ pn) (hi : i < 7) (hl : cs.length < lim) (hm : many ≠ 0) :
    callF P0 (m + 1) (Str.ofString "_law_draw") [.obj pn, .int many] σ = some (.int (drawL cs i many), σ.set pn (.list [.obj sn, .int ((i + 1 : Nat) : Int)])) := by
  have g1 : getitem (.obj pn) (.int 1) σ = some (.int i) := O_idx hp rfl
  have s1 : setitem (.obj pn) (.int 1) (.int ((i : Int) + 1)) σ = some (σ.set pn (.list [.obj sn, .int ((i : Int) + 1)])) := O_setL hp ⟨by decide, (show (1 : Int) < 2 by decide), by decide⟩
  have hp2 : (σ.set pn (.list [.obj sn, .int ((i : Int) + 1)]))[pn]? = some (.list [.obj sn, .int ((i : Int) + 1)]) := get_set hp
  have hs2 : (σ.set pn (.list [.obj sn, .int ((i : Int) + 1)]))[sn]? = some (.list (cs.map V.int)) := by rw [List.getElem?_set_ne (Ne.symm hne)]; exact hs
  show _ = some (_, σ.set pn (.list [.obj sn, .int ((i : Int) + 1)]))
  generalize σ.set pn (.list [.obj sn, .int ((i : Int) + 1)]) = σ1 at s1 hp2 hs2 ⊢
  have g2 : getitem (.obj pn) (.int 0) σ1 = some (.obj sn) := O_idx hp2 rfl
  have hlen : biCall .len [.obj sn] σ1 = some (.int ((cs.map V.int).length : Nat), σ1) := O_lenL hs2 (by simpa using hl)
  unfold drawL
  by_cases hc : i < cs.length
  · have hci : cs[i]? = some cs[i] := List.getElem?_eq_getElem hc
    have g3 : getitem (.obj sn) (.int i) σ1 = some (.int cs[i]) := O_idxI hs2 (by exact Int.natCast_nonneg _) (by exact ar117 hi) (by simp [hc])
    have hd : decide ((i : Int) < ((cs.map V.int).length : Nat)) = true := decide_eq_true (by simp; exact hc)
    rw [hci]
    dsimp only
    apply call_in find_law_draw ok_law_draw
    · exact rfl
    · apply S_asg
      · repeat' (first
    | exact E_int | exact E_str | exact E_none | exact E_bool
    | exact E_name rfl rfl
    | apply E_bin | apply E_neg | (apply E_sub; case hs => (intro _ _ _ _ h; cases h))
    | apply E_tup | apply E_list | exact L_nil | (apply L_cons; case hs => (intro _ _ h; cases h))
    | (apply E_bi; (case hb => exact rfl); (case hf => kernel_rfl); (case hg => exact ⟨rfl, rfl, of_decide_eq_true rfl⟩))
    | (apply E_call; (case hf => kernel_rfl); (case hg => exact ⟨rfl, rfl, of_decide_eq_true rfl⟩))
    | exact O_add | exact O_sub | apply O_mul | apply O_div | apply O_mod
    | (apply T_cmp; case hm => exact rfl) | apply T_not | apply T_bop
    | fail
    | assumption
    | exact g1
    | exact of_decide_eq_true rfl
    | exact rfl)
      · exact rfl
      · exact .inl rfl
      apply S_set
      · repeat' (first
    | exact E_int | exact E_str | exact E_none | exact E_bool
    | exact E_name rfl rfl
    | apply E_bin | apply E_neg | (apply E_sub; case hs => (intro _ _ _ _ h; cases h))
    | apply E_tup | apply E_list | exact L_nil | (apply L_cons; case hs => (intro _ _ h; cases h))
    | (apply E_bi; (case hb => exact rfl); (case hf => kernel_rfl); (case hg => exact ⟨rfl, rfl, of_decide_eq_true rfl⟩))
    | (apply E_call; (case hf => kernel_rfl); (case hg => exact ⟨rfl, rfl, of_decide_eq_true rfl⟩))
    | exact O_add | exact O_sub | apply O_mul | apply O_div | apply O_mod
    | (apply T_cmp; case hm => exact rfl) | apply T_not | apply T_bop
    | fail
    | assumption
    | fail
    | exact of_decide_eq_true rfl
    | exact rfl)
      · repeat' (first
    | exact E_int | exact E_str | exact E_none | exact E_bool
    | exact E_name rfl rfl
    | apply E_bin | apply E_neg | (apply E_sub; case hs => (intro _ _ _ _ h; cases h))
    | apply E_tup | apply E_list | exact L_nil | (apply L_cons; case hs => (intro _ _ h; cases h))
    | (apply E_bi; (case hb => exact rfl); (case hf => kernel_rfl); (case hg => exact ⟨rfl, rfl, of_decide_eq_true rfl⟩))
    | (apply E_call; (case hf => kernel_rfl); (case hg => exact ⟨rfl, rfl, of_decide_eq_true rfl⟩))
    | exact O_add | exact O_sub | apply O_mul | apply O_div | apply O_mod
    | (apply T_cmp; case hm => exact rfl) | apply T_not | apply T_bop
    | fail
    | assumption
    | fail
    | exact of_decide_eq_true rfl
    | exact rfl)
      · repeat' (first
    | exact E_int | exact E_str | exact E_none | exact E_bool
    | exact E_name rfl rfl
    | apply E_bin | apply E_neg | (apply E_sub; case hs => (intro _ _ _ _ h; cases h))
    | apply E_tup | apply E_list | exact L_nil | (apply L_cons; case hs => (intro _ _ h; cases h))
    | (apply E_bi; (case hb => exact rfl); (case hf => kernel_rfl); (case hg => exact ⟨rfl, rfl, of_decide_eq_true rfl⟩))
    | (apply E_call; (case hf => kernel_rfl); (case hg => exact ⟨rfl, rfl, of_decide_eq_true rfl⟩))
    | exact O_add | exact O_sub | apply O_mul | apply O_div | apply O_mod
    | (apply T_cmp; case hm => exact rfl) | apply T_not | apply T_bop
    | fail
    | assumption
    | fail
    | exact of_decide_eq_true rfl
    | exact rfl)
      · exact s1
      · exact rfl
      apply S_ifTr
      · repeat' (first
    | exact E_int | exact E_str | exact E_none | exact E_bool
    | exact E_name rfl rfl
    | apply E_bin | apply E_neg | (apply E_sub; case hs => (intro _ _ _ _ h; cases h))
    | apply E_tup | apply E_list | exact L_nil | (apply L_cons; case hs => (intro _ _ h; cases h))
    | (apply E_bi; (case hb => exact rfl); (case hf => kernel_rfl); (case hg => exact ⟨rfl, rfl, of_decide_eq_true rfl⟩))
    | (apply E_call; (case hf => kernel_rfl); (case hg => exact ⟨rfl, rfl, of_decide_eq_true rfl⟩))
    | exact O_add | exact O_sub | apply O_mul | apply O_div | apply O_mod
    | (apply T_cmp; case hm => exact rfl) | apply T_not | apply T_bop
    | exact hlen
    | assumption
    | exact g2
    | exact of_decide_eq_true rfl
    | exact rfl)
      · apply X_s
        apply S_ret
        repeat' (first
    | exact E_int | exact E_str | exact E_none | exact E_bool
    | exact E_name rfl rfl
    | apply E_bin | apply E_neg | (apply E_sub; case hs => (intro _ _ _ _ h; cases h))
    | apply E_tup | apply E_list | exact L_nil | (apply L_cons; case hs => (intro _ _ h; cases h))
    | (apply E_bi; (case hb => exact rfl); (case hf => kernel_rfl); (case hg => exact ⟨rfl, rfl, of_decide_eq_true rfl⟩))
    | (apply E_call; (case hf => kernel_rfl); (case hg => exact ⟨rfl, rfl, of_decide_eq_true rfl⟩))
    | exact O_add | exact O_sub | apply O_mul | apply O_div | apply O_mod
    | (apply T_cmp; case hm => exact rfl) | apply T_not | apply T_bop
    | fail
    | assumption
    | exact g2 | exact g3 | exact hm
    | exact of_decide_eq_true rfl
    | exact rfl)
    · exact .inl rfl
  · have hci : cs[i]? = none := List.getElem?_eq_none (by exact Nat.le_of_not_lt hc)
    have hd : decide ((i : Int) < ((cs.map V.int).length : Nat)) = false := decide_eq_false (by simp; exact Nat.le_of_not_lt hc)
    have ht : getitem (.tup [.int 1, .int 0, .int 0, .int 0, .int 0, .int 1, .int 2]) (.int ((i : Int).fmod 7)) σ1 = some (.int (dflt i)) := dflt_at i hi
    rw [hci]
    dsimp only
    apply call_in find_law_draw ok_law_draw
    · exact rfl
    · apply S_asg
      · repeat' (first
    | exact E_int | exact E_str | exact E_none | exact E_bool
    | exact E_name rfl rfl
    | apply E_bin | apply E_neg | (apply E_sub; case hs => (intro _ _ _ _ h; cases h))
    | apply E_tup | apply E_list | exact L_nil | (apply L_cons; case hs => (intro _ _ h; cases h))
    | (apply E_bi; (case hb => exact rfl); (case hf => kernel_rfl); (case hg => exact ⟨rfl, rfl, of_decide_eq_true rfl⟩))
    | (apply E_call; (case hf => kernel_rfl); (case hg => exact ⟨rfl, rfl, of_decide_eq_true rfl⟩))
    | exact O_add | exact O_sub | apply O_mul | apply O_div | apply O_mod
    | (apply T_cmp; case hm => exact rfl) | apply T_not | apply T_bop
    | fail
    | assumption
    | exact g1
    | exact of_decide_eq_true rfl
    | exact rfl)
      · exact rfl
      · exact .inl rfl
      apply S_set
      · repeat' (first
    | exact E_int | exact E_str | exact E_none | exact E_bool
    | exact E_name rfl rfl
    | apply E_bin | apply E_neg | (apply E_sub; case hs => (intro _ _ _ _ h; cases h))
    | apply E_tup | apply E_list | exact L_nil | (apply L_cons; case hs => (intro _ _ h; cases h))
    | (apply E_bi; (case hb => exact rfl); (case hf => kernel_rfl); (case hg => exact ⟨rfl, rfl, of_decide_eq_true rfl⟩))
    | (apply E_call; (case hf => kernel_rfl); (case hg => exact ⟨rfl, rfl, of_decide_eq_true rfl⟩))
    | exact O_add | exact O_sub | apply O_mul | apply O_div | apply O_mod
    | (apply T_cmp; case hm => exact rfl) | apply T_not | apply T_bop
    | fail
    | assumption
    | fail
    | exact of_decide_eq_true rfl
    | exact rfl)
      · repeat' (first
    | exact E_int | exact E_str | exact E_none | exact E_bool
    | exact E_name rfl rfl
    | apply E_bin | apply E_neg | (apply E_sub; case hs => (intro _ _ _ _ h; cases h))
    | apply E_tup | apply E_list | exact L_nil | (apply L_cons; case hs => (intro _ _ h; cases h))
    | (apply E_bi; (case hb => exact rfl); (case hf => kernel_rfl); (case hg => exact ⟨rfl, rfl, of_decide_eq_true rfl⟩))
    | (apply E_call; (case hf => kernel_rfl); (case hg => exact ⟨rfl, rfl, of_decide_eq_true rfl⟩))
    | exact O_add | exact O_sub | apply O_mul | apply O_div | apply O_mod
    | (apply T_cmp; case hm => exact rfl) | apply T_not | apply T_bop
    | fail
    | assumption
    | fail
    | exact of_decide_eq_true rfl
    | exact rfl)
      · repeat' (first
    | exact E_int | exact E_str | exact E_none | exact E_bool
    | exact E_name rfl rfl
    | apply E_bin | apply E_neg | (apply E_sub; case hs => (intro _ _ _ _ h; cases h))
    | apply E_tup | apply E_list | exact L_nil | (apply L_cons; case hs => (intro _ _ h; cases h))
    | (apply E_bi; (case hb => exact rfl); (case hf => kernel_rfl); (case hg => exact ⟨rfl, rfl, of_decide_eq_true rfl⟩))
    | (apply E_call; (case hf => kernel_rfl); (case hg => exact ⟨rfl, rfl, of_decide_eq_true rfl⟩))
    | exact O_add | exact O_sub | apply O_mul | apply O_div | apply O_mod
    | (apply T_cmp; case hm => exact rfl) | apply T_not | apply T_bop
    | fail
    | assumption
    | fail
    | exact of_decide_eq_true rfl
    | exact rfl)
      · exact s1
      · exact rfl
      apply S_ifF
      · repeat' (first
    | exact E_int | exact E_str | exact E_none | exact E_bool
    | exact E_name rfl rfl
    | apply E_bin | apply E_neg | (apply E_sub; case hs => (intro _ _ _ _ h; cases h))
    | apply E_tup | apply E_list | exact L_nil | (apply L_cons; case hs => (intro _ _ h; cases h))
    | (apply E_bi; (case hb => exact rfl); (case hf => kernel_rfl); (case hg => exact ⟨rfl, rfl, of_decide_eq_true rfl⟩))
    | (apply E_call; (case hf => kernel_rfl); (case hg => exact ⟨rfl, rfl, of_decide_eq_true rfl⟩))
    | exact O_add | exact O_sub | apply O_mul | apply O_div | apply O_mod
    | (apply T_cmp; case hm => exact rfl) | apply T_not | apply T_bop
    | exact hlen
    | assumption
    | exact g2
    | exact of_decide_eq_true rfl
    | exact rfl)
      · exact X_s S_nil
      apply S_ret
      repeat' (first
    | exact E_int | exact E_str | exact E_none | exact E_bool
    | exact E_name rfl rfl
    | apply E_bin | apply E_neg | (apply E_sub; case hs => (intro _ _ _ _ h; cases h))
    | apply E_tup | apply E_list | exact L_nil | (apply L_cons; case hs => (intro _ _ h; cases h))
    | (apply E_bi; (case hb => exact rfl); (case hf => kernel_rfl); (case hg => exact ⟨rfl, rfl, of_decide_eq_true rfl⟩))
    | (apply E_call; (case hf => kernel_rfl); (case hg => exact ⟨rfl, rfl, of_decide_eq_true rfl⟩))
    | exact O_add | exact O_sub | apply O_mul | apply O_div | apply O_mod
    | (apply T_cmp; case hm => exact rfl) | apply T_not | apply T_bop
    | fail
    | assumption
    | exact ht | exact hm | (exact (by decide : (7 : Int) ≠ 0))
    | exact of_decide_eq_true rfl
    | exact rfl)
    · exact .inl rfl
end Mine
set_option maxHeartbeats 8000000
namespace Mine
open PySem PyProof.Rows
noncomputable def minOK (xs : List Int) : Bool := match xs with
  | x :: r => minL x r == 0
  | [] => false
noncomputable def fairL (f : PL) : Bool := (decide (f.length < 9000) && !f.isEmpty) && ((keys f).all (fun k => match plGet f k with
  | some c => c.2 == 1 && decide (0 < c.1)
  | none => false)) && minOK ((keys f).map (·.1)) && minOK ((keys f).map (·.2))
theorem fold_unit {β : Type} : ∀ {l : List β}, foldF (fun (_ : Unit) (_ : β) => some ()) () l = some ()
  | [] => rfl
  | _ :: r => fold_unit (l := r)
noncomputable def snocS (g : Q2 → Int) (acc : List Int) (k : Q2) : Option (List Int) := if acc.length < lim then some (acc ++ [g k]) else none
theorem fold_snoc {g : Q2 → Int} : ∀ {ks : List Q2} {acc : List Int}, acc.length + ks.length < 9500 → foldF (snocS g) acc ks = some (acc ++ ks.map g)
  | [], acc, _ => by simp [foldF]
  | k :: r, acc, h => by
    have h' : acc.length + (r.length + 1) < 9500 := by simpa using h
    unfold foldF snocS
    rw [if_pos (by unfold lim; exact ar119 h)]
    have := fold_snoc (g := g) (ks := r) (acc := acc ++ [g k]) (by simp; exact ar120 h')
    show foldF (snocS g) (acc ++ [g k]) r = _
    rw [this]
    simp
/-- a row of ints out of the keys of a dict -/
theorem X_keys {T : Tb} {d : Nat} {cx : Cx} {ρ : Rho} {σ : Store} {elt : Expr} {gg : Comprehension} {scope : Scope} {pos pp : Pos} {x : Str} {it : Expr} {n ep : Nat} {f : PL} {g : Q2 → Int} {fr : List (Str × V)} {K : V → Store → Prop} (hgg : gg = ⟨.Name x pp, it, [], 0⟩)
    (hc : compOk cx scope = true) (hi : iterE T (ev T d) cx it ρ σ = some (.dict n 0 (D f).length ep, σ)) (hf : freeVals ρ scope.names = some fr) (hn : σ[n]? = some (.dict (D f) ep)) (hl : f.length < 9000) (hown : ownNames scope.names = [(Str.ofString ".0", none), (x, none)])
    (hx : ∀ o k, rset [(Str.ofString ".0", none), (x, o)] x (qV k) = some [(Str.ofString ".0", none), (x, some (qV k))])
    (he : ∀ k σ', Ext σ σ' → (ev T d).e ⟨compNm scope, fr⟩ elt [(Str.ofString ".0", none), (x, some (qV k))] σ' = some (.int (g k), σ'))
    (hK : ∀ σ', Ext σ σ' → σ'[σ.length]? = some (.list (((keys f).map g).map V.int)) → K (.obj σ.length) σ') : Xp T (d + 1) cx (.ListComp elt [gg] scope pos) ρ σ K := by
  subst hgg
  have hfold := fold_snoc (g := g) (ks := keys f) (acc := []) (by simp; exact Nat.lt_add_left _ hl)
  have key := fun (hs : _) => comp_PL (T := T) (d := d) (cx := ⟨compNm scope, fr⟩) (inner := compGs T (ev T d) ⟨compNm scope, fr⟩ (emitList (ev T d) ⟨compNm scope, fr⟩ σ.length elt) []) (x := x) (pp := pp) (ifs := []) (n := n) (ep := ep) (step := snocS g) (a0 := []) (ρ := ownNames scope.names)
    (fun acc ρ' σ' => ∃ o, ρ' = [(Str.ofString ".0", Option.none), (x, o)] ∧ Ext σ σ' ∧ σ'[σ.length]? = some (.list (acc.map V.int))) (σ := σ ++ [.list []]) (by exact Nat.lt_add_left _ hl) hfold ⟨none, hown, .app, get_last⟩ (fun acc ρ σ' hr => by obtain ⟨o, rfl, hx, hj⟩ := hr; exact hx n _ hn) hs
  apply X_lcomp
  · exact .inl rfl
  · exact ⟨hc, rfl⟩
  · exact hi
  · exact hf
  · refine key ?_
    rintro acc k acc' ρ σ' hk hs ⟨o, rfl, hX, hj⟩
    unfold snocS at hs
    split at hs
    rotate_left
    · cases hs
    rename_i hl2
    cases hs
    refine ⟨_, true, σ', hx o k, I_nil, ?_⟩
    rw [if_pos rfl]
    refine ⟨_, σ'.set σ.length (.list (acc.map V.int ++ [.int (g k)])), ?_, some (qV k), rfl, hX.set (Nat.le_refl _), by rw [get_set hj]; simp⟩
    apply G_nil
    exact M_list (he k σ' hX) hj (by simpa using hl2)
  · rintro ρ' σ' ⟨o, rfl, hX, hj⟩
    exact hK σ' hX (by simpa using hj)
theorem min_of {xs : List Int} (h : minOK xs = true) : ∃ y r, xs = y :: r ∧ minL y r = 0 := by
  cases xs with
  | nil => cases h
  | cons y r => exact ⟨y, r, rfl, by simpa [minOK] using h⟩
theorem fair_spec {m a ea : Nat} {f : PL} {σ : Store} (ha : σ[a]? = some (.dict (D f) ea)) (h : fairL f = true) : ∃ v σ', callF P0 (m + 1) (Str.ofString "_law_is_fair") [.obj a] σ = some (v, σ') ∧ v = .bool true ∧ Ext σ σ' := by
  unfold fairL at h
  simp only [Bool.and_eq_true, decide_eq_true_eq, List.all_eq_true] at h
  obtain ⟨⟨⟨⟨hl, hem⟩, hall⟩, hm1⟩, hm2⟩ := h
  obtain ⟨y1, r1, q1, z1⟩ := min_of hm1
  obtain ⟨y2, r2, q2, z2⟩ := min_of hm2
  have hlim : f.length < lim := by unfold lim; exact Nat.lt_add_left _ hl
  have hlen := O_len ha hlim
  have h0 : (((f.length : Nat) : Int) == 0) = false := by
    cases f with
    | nil => simp at hem
    | cons x y => exact beq_eq_false_iff_ne.mpr (by show ((y.length + 1 : Nat) : Int) ≠ 0; exact ar30)
  apply call_run _ find_law_is_fair ok_law_is_fair
  · exact rfl
  · apply R_ifF'
    apply Tst_or2
    · repeat' (first
    | exact E_int | exact E_str | exact E_none | exact E_bool
    | exact E_name rfl rfl
    | apply E_bin | apply E_neg | (apply E_sub; case hs => (intro _ _ _ _ h; cases h))
    | apply E_tup | apply E_list | exact L_nil | (apply L_cons; case hs => (intro _ _ h; cases h))
    | (apply E_bi; (case hb => exact rfl); (case hf => kernel_rfl); (case hg => exact ⟨rfl, rfl, of_decide_eq_true rfl⟩))
    | (apply E_call; (case hf => kernel_rfl); (case hg => exact ⟨rfl, rfl, of_decide_eq_true rfl⟩))
    | exact O_add | exact O_sub | apply O_mul | apply O_div | apply O_mod
    | (apply T_cmp; case hm => exact rfl) | apply T_not | apply T_bop
    | exact hlen
    | assumption
    | fail
    | exact of_decide_eq_true rfl
    | exact rfl)
    apply Tst_cmp
    · exact rfl
    have key := fun (T : Tb) (d : Nat) (cx : Cx) (inner : Rho → Store → Option (Rho × Store)) (pp : Pos) (ifs : List Expr) (hs : _) => comp_PL (T := T) (d := d) (cx := cx) (inner := inner) (x := Str.ofString "one") (pp := pp) (ifs := ifs) (n := a) (ep := ea) (step := fun (_ : Unit) (_ : Q2) => some ()) (p := f) (fun (_ : Unit) ρ' σ' => ∃ o, ρ' = [(Str.ofString ".0", Option.none), (Str.ofString "one", o)] ∧ Ext σ σ' ∧ σ'[σ.length]? = some (.list [])) (σ := σ ++ [.list []]) (by exact Nat.lt_add_left _ hl) fold_unit ⟨none, rfl, .app, get_last⟩ (fun acc ρ σ' hr => by obtain ⟨o, rfl, hx, hj⟩ := hr; exact hx a _ ha) hs
    apply X_lcomp
    · exact .inl rfl
    · exact ⟨by decide +kernel, rfl⟩
    · apply R_name
      · exact E_name rfl rfl
      · exact iterV_obj ha
    · exact rfl
    · refine key _ _ _ _ _ _ ?_
      rintro acc k acc' ρ σ' hk hs ⟨o, rfl, hX, hj⟩
      have hk2 := hall k hk
      split at hk2
      rotate_left
      · cases hk2
      rename_i c hc
      simp only [Bool.and_eq_true, beq_iff_eq, decide_eq_true_eq] at hk2
      have hg := O_get (hX a _ ha) hc
      have t1 : (c.2 != 1) = false := by simp [hk2.1]
      have t2 : decide (c.1 ≤ 0) = false := decide_eq_false (by exact ar122 hk2)
      refine ⟨_, false, σ', rfl, ?_, some (qV k), rfl, hX, hj⟩
      apply I_one
      apply T_bop
      apply B_orF
      · repeat' (first
    | exact E_int | exact E_str | exact E_none | exact E_bool
    | exact E_name rfl rfl
    | apply E_bin | apply E_neg | (apply E_sub; case hs => (intro _ _ _ _ h; cases h))
    | apply E_tup | apply E_list | exact L_nil | (apply L_cons; case hs => (intro _ _ h; cases h))
    | (apply E_bi; (case hb => exact rfl); (case hf => kernel_rfl); (case hg => exact ⟨rfl, rfl, of_decide_eq_true rfl⟩))
    | (apply E_call; (case hf => kernel_rfl); (case hg => exact ⟨rfl, rfl, of_decide_eq_true rfl⟩))
    | exact O_add | exact O_sub | apply O_mul | apply O_div | apply O_mod
    | (apply T_cmp; case hm => exact rfl) | apply T_not | apply T_bop
    | fail
    | assumption
    | exact hg
    | exact of_decide_eq_true rfl
    | exact rfl)
      · apply B_orF
        · repeat' (first
    | exact E_int | exact E_str | exact E_none | exact E_bool
    | exact E_name rfl rfl
    | apply E_bin | apply E_neg | (apply E_sub; case hs => (intro _ _ _ _ h; cases h))
    | apply E_tup | apply E_list | exact L_nil | (apply L_cons; case hs => (intro _ _ h; cases h))
    | (apply E_bi; (case hb => exact rfl); (case hf => kernel_rfl); (case hg => exact ⟨rfl, rfl, of_decide_eq_true rfl⟩))
    | (apply E_call; (case hf => kernel_rfl); (case hg => exact ⟨rfl, rfl, of_decide_eq_true rfl⟩))
    | exact O_add | exact O_sub | apply O_mul | apply O_div | apply O_mod
    | (apply T_cmp; case hm => exact rfl) | apply T_not | apply T_bop
    | fail
    | assumption
    | exact hg
    | exact of_decide_eq_true rfl
    | exact rfl)
        · exact B_nilO
    rintro ρ' σ1 ⟨o, rfl, hX, hj⟩
    apply X_of
    · repeat' (first
    | exact E_int | exact E_str | exact E_none | exact E_bool
    | exact E_name rfl rfl
    | apply E_bin | apply E_neg | (apply E_sub; case hs => (intro _ _ _ _ h; cases h))
    | apply E_tup | apply E_list | exact L_nil | (apply L_cons; case hs => (intro _ _ h; cases h))
    | (apply E_bi; (case hb => exact rfl); (case hf => kernel_rfl); (case hg => exact ⟨rfl, rfl, of_decide_eq_true rfl⟩))
    | (apply E_call; (case hf => kernel_rfl); (case hg => exact ⟨rfl, rfl, of_decide_eq_true rfl⟩))
    | exact O_add | exact O_sub | apply O_mul | apply O_div | apply O_mod
    | (apply T_cmp; case hm => exact rfl) | apply T_not | apply T_bop
    | fail
    | assumption
    | fail
    | exact of_decide_eq_true rfl
    | exact rfl)
    refine ⟨O_ne0 (Ext.app _ _ hj) get_last, ?_⟩
    have hX2 := hX.trans (Ext.app (e := [Cell.list []]))
    generalize σ1 ++ [Cell.list []] = σ2 at hX2 ⊢
    have ha2 := hX2 _ _ ha
    apply R_retE
    apply X_and2
    apply X_cmp
    · exact rfl
    apply X_bi1
    · intro _ _ h; cases h
    · exact ⟨rfl, rfl, of_decide_eq_true rfl⟩
    · kernel_rfl
    · exact rfl
    apply X_keys (g := fun k => k.1) rfl
    · decide +kernel
    · apply R_name
      · exact E_name rfl rfl
      · exact iterV_obj ha2
    · exact rfl
    · exact ha2
    · exact hl
    · exact rfl
    · intro o k; exact rfl
    · intro k σ' hx
      repeat' (first
    | exact E_int | exact E_str | exact E_none | exact E_bool
    | exact E_name rfl rfl
    | apply E_bin | apply E_neg | (apply E_sub; case hs => (intro _ _ _ _ h; cases h))
    | apply E_tup | apply E_list | exact L_nil | (apply L_cons; case hs => (intro _ _ h; cases h))
    | (apply E_bi; (case hb => exact rfl); (case hf => kernel_rfl); (case hg => exact ⟨rfl, rfl, of_decide_eq_true rfl⟩))
    | (apply E_call; (case hf => kernel_rfl); (case hg => exact ⟨rfl, rfl, of_decide_eq_true rfl⟩))
    | exact O_add | exact O_sub | apply O_mul | apply O_div | apply O_mod
    | (apply T_cmp; case hm => exact rfl) | apply T_not | apply T_bop
    | fail
    | assumption
    | fail
    | exact of_decide_eq_true rfl
    | exact rfl)
    intro σ3 hX3 hj3
    refine ⟨_, _, O_min hj3 (by rw [intsOf_map]; exact congrArg some q1), ?_⟩
    apply X_of
    · exact E_int
    refine ⟨rfl, by show V.bool (minL y1 r1 == 0) = _; rw [z1]; rfl, ?_⟩
    have ha3 := hX3 _ _ ha2
    apply X_cmp
    · exact rfl
    apply X_bi1
    · intro _ _ h; cases h
    · exact ⟨rfl, rfl, of_decide_eq_true rfl⟩
    · kernel_rfl
    · exact rfl
    apply X_keys (g := fun k => k.2) rfl
    · decide +kernel
    · apply R_name
      · exact E_name rfl rfl
      · exact iterV_obj ha3
    · exact rfl
    · exact ha3
    · exact hl
    · exact rfl
    · intro o k; exact rfl
    · intro k σ' hx
      repeat' (first
    | exact E_int | exact E_str | exact E_none | exact E_bool
    | exact E_name rfl rfl
    | apply E_bin | apply E_neg | (apply E_sub; case hs => (intro _ _ _ _ h; cases h))
    | apply E_tup | apply E_list | exact L_nil | (apply L_cons; case hs => (intro _ _ h; cases h))
    | (apply E_bi; (case hb => exact rfl); (case hf => kernel_rfl); (case hg => exact ⟨rfl, rfl, of_decide_eq_true rfl⟩))
    | (apply E_call; (case hf => kernel_rfl); (case hg => exact ⟨rfl, rfl, of_decide_eq_true rfl⟩))
    | exact O_add | exact O_sub | apply O_mul | apply O_div | apply O_mod
    | (apply T_cmp; case hm => exact rfl) | apply T_not | apply T_bop
    | fail
    | assumption
    | fail
    | exact of_decide_eq_true rfl
    | exact rfl)
    intro σ4 hX4 hj4
    refine ⟨_, _, O_min hj4 (by rw [intsOf_map]; exact congrArg some q2), ?_⟩
    apply X_of
    · exact E_int
    exact ⟨rfl, _, .inl rfl, by show V.bool (minL y2 r2 == 0) = _; rw [z2]; rfl, hX2.trans (hX3.trans hX4)⟩
end Mine
set_option maxHeartbeats 8000000
namespace Mine
open PySem PyProof.Rows
noncomputable def bnd (o : Int) : Nat := if o = 2 then 5 else if o = 3 then 6 else if o = 4 then 8 else 10
noncomputable def sumOK (o : Int) : Int := if o = 2 then 34 else if o = 3 then 11 else if o = 4 then 59 else 83
noncomputable abbrev LS := List (PL × Q2) × List Q2
noncomputable def initRow (f s : Int) (i : Nat) : PL × Q2 := ([((0, 0), (1, 1))], (if (i : Int) = f then -1 else 0, if (i : Int) = s then -1 else 0))
noncomputable def initVal (f s x y : Int) (i : Nat) : Q2 := (if (i : Int) = f then x else if (i : Int) = s then y else 1, 1)
/-- the polynomial part of a turn -/
noncomputable def polyStep (o al be : Int) (rows : List (PL × Q2)) : Option (PL × Q2) := match nextL rows o al be with
  | some r => if fairL r.1 = true then some r else none
  | none => none
/-- the point part of a turn -/
noncomputable def pointStep (o al be x y : Int) (r : PL × Q2) (vals : List Q2) : Option Q2 := match ratioL vals o al be with
  | some v => (match rpowL (x, 1) r.2.1 with
    | some a => (match rpowL (y, 1) r.2.2 with
      | some b => (match rmulL a b with
        | some below => (match mvatL r.1 (x, 1) (y, 1) with
          | some p => (match rmulL v below with
            | some q => if p = q then some v else none
            | none => none)
          | none => none)
        | none => none)
      | none => none)
    | none => none)
  | none => none
noncomputable def polyRun (o al be : Int) : Nat → List (PL × Q2) → Option (List (PL × Q2))
  | 0, rows => some rows
  | k + 1, rows => match polyStep o al be rows with
    | some r => polyRun o al be k (rows ++ [r])
    | none => none
noncomputable def pointRun (o al be x y : Int) : List (PL × Q2) → List Q2 → Bool
  | [], _ => true
  | r :: rs, vals => match pointStep o al be x y r vals with
    | some v => pointRun o al be x y rs (vals ++ [v])
    | none => false
end Mine
set_option maxHeartbeats 8000000
namespace Mine
open PySem PyProof.Rows
section
variable {T : Tb} {d : Nat} {cx : Cx} {ρ ρ1 : Rho} {σ σ1 σ2 : Store} {Q : Fl → Rho → Store → Prop} {x : Str} {q p pp p2 cp : Pos} {e : Expr} {r body : List Stmt} {α : Type}
theorem E_slice {ns : List Int} {k : Int} {ck : Nat} (h1 : (ev T d).e cx (.Name x q) ρ σ = some (.ilist ns, σ1)) (hk : 0 ≤ k ∧ k < lim) :
    (ev T (d + 1)).e cx (.Subscript (.Name x q) (.Slice none (some (.Constant (.int k) ck cp)) none p) p2) ρ σ = some (.obj σ1.length, σ1 ++ [.list ((ns.take k.toNat).map V.int)]) := by
  rw [ev_e]
  delta stepE; dsimp only
  rw [h1]; dsimp only; rw [if_pos hk]
theorem comp_list {inner : Rho → Store → Option (Rho × Store)} {n : Nat} {vs : List V} {step : α → V → Option α} (Rel : α → Rho → Store → Prop)
    (hk : ∀ a ρ σ, Rel a ρ σ → σ[n]? = some (.list vs))
    (hs : ∀ a v a' ρ σ, v ∈ vs → step a v = some a' → Rel a ρ σ → ∃ ρ1, rset ρ x v = some ρ1 ∧ ∃ ρ2 σ2, inner ρ1 σ = some (ρ2, σ2) ∧ Rel a' ρ2 σ2) :
    ∀ (rest : List V) (i j : Nat) (a r : α) (ρ : Rho) (σ : Store), vs.drop i = rest → foldF step a rest = some r → Rel a ρ σ →
      ∃ ρ' σ', compL (ev T d) cx inner (.Name x p) [] (rest.length + 1 + j) (.list n i) ρ σ = some (ρ', σ') ∧ Rel r ρ' σ'
  | [], i, j, a, r, ρ, σ, hd, h, hr => by
    cases h
    exact ⟨ρ, σ, C_end (k := j) (by simp [Nat.add_comm]) rfl (next_listE (hk _ _ _ hr) (List.getElem?_eq_none (List.drop_eq_nil_iff.mp hd))), hr⟩
  | v :: rest, i, j, a, r, ρ, σ, hd, h, hr => by
    unfold foldF at h
    split at h
    · rename_i a' ha
      have hi : vs[i]? = some v := by have := congrArg (fun l => l[0]?) hd; simpa using this
      obtain ⟨ρ1, g1, ρ2, σ2, g2, g3⟩ := hs _ _ _ ρ σ (List.mem_of_getElem? hi) ha hr
      have hd' : vs.drop (i + 1) = rest := by rw [← List.drop_drop, hd]; rfl
      obtain ⟨ρ', σ', q1, q2⟩ := comp_list Rel hk hs rest (i + 1) j a' r ρ2 σ2 hd' h g3
      exact ⟨ρ', σ', C_item (k := rest.length + 1 + j) (by simp [Nat.add_comm, Nat.add_left_comm]) rfl (next_list (hk _ _ _ hr) hi) g1 I_nil g2 q1, q2⟩
    · first | exact no_some h | cases h
theorem for_range {N : Nat} (Rel : Nat → Rho → Store → Prop) (hs : ∀ i ρ σ, i < N → Rel i ρ σ → ∃ ρ1, rset ρ x (.int i) = some ρ1 ∧ RunB T d cx body ρ1 σ fun fl ρ2 σ2 => (fl = .next ∨ fl = .cont) ∧ Rel (i + 1) ρ2 σ2) :
    ∀ (left i j : Nat) (ρ : Rho) (σ : Store), i + left = N → Rel i ρ σ → ∃ ρ' σ', forL (ev T d) cx (.Name x p) body (left + 1 + j) (.range i left) ρ σ = some (.next, ρ', σ') ∧ Rel N ρ' σ'
  | 0, i, j, ρ, σ, hN, hr => by
    have : i = N := by exact hN
    subst this
    exact ⟨ρ, σ, F_end (k := j) (by exact Nat.add_comm _ _) rfl rfl, hr⟩
  | l + 1, i, j, ρ, σ, hN, hr => by
    obtain ⟨ρ1, g1, fl, ρ2, σ2, g2, g3, g4⟩ := hs i ρ σ (by exact ar126 hN) hr
    obtain ⟨ρ', σ', q1, q2⟩ := for_range Rel hs l (i + 1) j ρ2 σ2 (by exact ar127 hN) g4
    exact ⟨ρ', σ', F_item (k := l + 1 + j) (it' := .range ((i + 1 : Nat) : Int) l) (by exact ar128) rfl rfl g1 g2 g3 q1, q2⟩
theorem R_forRange {N : Nat} (Rel : Nat → Rho → Store → Prop) (hi : iterE T (ev T d) cx e ρ σ = some (.range 0 N, σ1)) (hN : N < 10000) (hr : Rel 0 ρ σ1)
    (hs : ∀ i ρ σ, i < N → Rel i ρ σ → ∃ ρ1, rset ρ x (.int i) = some ρ1 ∧ RunB T d cx body ρ1 σ fun fl ρ2 σ2 => (fl = .next ∨ fl = .cont) ∧ Rel (i + 1) ρ2 σ2)
    (h : ∀ ρ' σ', Rel N ρ' σ' → Run T d cx r ρ' σ' Q) : Run T d cx (.For (.Name x pp) e body [] q :: r) ρ σ Q := by
  obtain ⟨j, hj⟩ := bud_split (k := N + 1) (by unfold bud; exact ar36 hN)
  obtain ⟨ρ', σ', h1, h2⟩ := for_range (p := pp) Rel hs N 0 j ρ σ1 (by exact ar124) hr
  rw [← hj] at h1
  exact .of (fun _ => S_for hi h1) (h ρ' σ' h2)
theorem O_preA {n : Nat} {vs : List V} (h : σ[n]? = some (.list vs)) : methPre (.obj n) (Str.ofString "append") σ = true := by
  delta methPre; dsimp only; simp [h]
theorem O_app {n : Nat} {vs : List V} {v : V} (h : σ[n]? = some (.list vs)) (hl : vs.length < lim) : methodV (.obj n) (Str.ofString "append") [v] σ = some (.none, σ.set n (.list (vs ++ [v]))) := by
  delta methodV; dsimp only; simp only [if_true, h]
  exact if_pos hl
theorem O_sum {n : Nat} {vs : List V} {l : List Int} (h1 : σ[n]? = some (.list vs)) (h2 : intsOf vs = some l) : biCall .sum [.obj n] σ = some (.int (sumL 0 l), σ) := by
  delta biCall; dsimp only; simp only [h1, h2]
end
/-- the store keeps its dicts and what is no row of the law's own -/
theorem RowOK.set {σ : Store} {rvs : List V} {rows : List (PL × Q2)} (h : RowOK σ rvs rows) {n : Nat} {vs : List V} {c : Cell} (hn : σ[n]? = some (.list vs)) : RowOK (σ.set n c) rvs rows :=
  ⟨h.1, fun i r e => by
    obtain ⟨j, ep, a, b⟩ := h.2 i r e
    refine ⟨j, ep, a, ?_⟩
    rw [List.getElem?_set_ne (fun q => by rw [q, b] at hn; cases hn)]
    exact b⟩
theorem RowOK.snoc {σ : Store} {rvs : List V} {rows : List (PL × Q2)} (h : RowOK σ rvs rows) {r : PL × Q2} {j ep : Nat} (hj : σ[j]? = some (.dict (D r.1) ep)) : RowOK σ (rvs ++ [.tup [.obj j, qV r.2]]) (rows ++ [r]) := by
  refine ⟨by simp [h.1], fun i r' e => ?_⟩
  by_cases q : i < rows.length
  · rw [List.getElem?_append_left q] at e
    obtain ⟨j', ep', a, b⟩ := h.2 i r' e
    exact ⟨j', ep', by rw [List.getElem?_append_left (by rw [h.1]; exact q)]; exact a, b⟩
  · have hl := (List.getElem?_eq_some_iff.mp e).1
    simp at hl
    have hi : i = rows.length := by exact Nat.eq_of_lt_succ_of_not_lt hl q
    subst hi
    simp at e
    subst e
    exact ⟨j, ep, by rw [← h.1]; simp, hj⟩
theorem drawL_range {cs : List Int} {i : Nat} {many : Int} (h : 0 < many) : 0 ≤ drawL cs i many ∧ drawL cs i many < many := by
  unfold drawL
  split
  · exact ⟨Int.fmod_nonneg_of_pos _ h, Int.fmod_lt_of_pos _ h⟩
  · exact ⟨Int.fmod_nonneg_of_pos _ h, Int.fmod_lt_of_pos _ h⟩
end Mine
set_option maxHeartbeats 8000000
namespace Mine
open PySem PyProof.Rows
theorem draw_ex {m pn sn i : Nat} {cs : List Int} {many : Int} {σ : Store} (hp : σ[pn]? = some (.list [.obj sn, .int i])) (hs : σ[sn]? = some (.list (cs.map V.int))) (hne : sn ≠ pn) (hi : i < 7) (hl : cs.length < lim) (hm : 0 < many) :
    ∃ τ : Store, callF P0 (m + 1) (Str.ofString "_law_draw") [.obj pn, .int many] σ = some (.int (drawL cs i many), τ) ∧ τ[pn]? = some (.list [.obj sn, .int ((i + 1 : Nat) : Int)]) ∧ τ[sn]? = some (.list (cs.map V.int)) :=
  ⟨_, draw_spec (m := m) hp hs hne hi hl (by exact Int.ne_of_gt hm), get_set hp, by rw [List.getElem?_set_ne (Ne.symm hne)]; exact hs⟩
section
variable {T : Tb} {d : Nat} {cx : Cx} {ρ : Rho} {σ : Store} {p : Pos} {e1 e2 : Expr} {K : V → Store → Prop}
theorem E_slice9 {x : Str} {q p2 cp : Pos} {ck : Nat} {σ1 : Store} {ns cs : List Int} (hcs : ns.take 9 = cs) (h1 : (ev T d).e cx (.Name x q) ρ σ = some (.ilist ns, σ1)) :
    (ev T (d + 1)).e cx (.Subscript (.Name x q) (.Slice none (some (.Constant (.int 9) ck cp)) none p) p2) ρ σ = some (.obj σ1.length, σ1 ++ [.list (cs.map V.int)]) := by
  have := E_slice (p := p) (p2 := p2) (cp := cp) (ck := ck) (k := 9) h1 (by decide)
  rw [show (9 : Int).toNat = 9 from rfl, hcs] at this
  exact this
theorem X_list2 (hs1 : ∀ a b, e1 ≠ .Starred a b) (hs2 : ∀ a b, e2 ≠ .Starred a b) (h : Xp T d cx e1 ρ σ fun a σ1 => Xp T d cx e2 ρ σ1 fun b σ2 => K (.obj σ2.length) (σ2 ++ [.list [a, b]])) : Xp T (d + 1) cx (.List [e1, e2] p) ρ σ K := by
  obtain ⟨a, σ1, h1, b, σ2, h2, h3⟩ := h
  exact ⟨_, _, E_list (L_cons hs1 h1 (L_cons hs2 h2 L_nil)) (of_decide_eq_true rfl), h3⟩
end
noncomputable def intS (acc : List Int) (v : V) : Option (List Int) := match v with
  | .int i => if acc.length < lim then some (acc ++ [i]) else none
  | _ => none
theorem fold_intS : ∀ {cs acc : List Int}, acc.length + cs.length < 9000 → foldF intS acc (cs.map V.int) = some (acc ++ cs)
  | [], acc, _ => by simp [foldF]
  | i :: r, acc, h => by
    have h' : acc.length + (r.length + 1) < 9000 := by simpa using h
    have := fold_intS (cs := r) (acc := acc ++ [i]) (by simp; exact ar38 h')
    have e : intS acc (.int i) = some (acc ++ [i]) := if_pos (by unfold lim; exact ar129 h)
    rw [List.map_cons]
    unfold foldF
    rw [e]
    dsimp only
    rw [this]
    simp
/-- what stands behind the draws -/
noncomputable def LawQ (fl : Fl) (_ : Rho) (_ : Store) : Prop := ∃ v, (fl = .ret v ∨ (fl = .next ∧ v = .none)) ∧ v = .bool true
theorem law_head {m : Nat} {ns : List Int} {o al be f s x y : Int} (ho : o = 2 + drawL (ns.take 9) 0 4) (hal : al = if 3 < o then 1 + drawL (ns.take 9) 1 2 else 1) (hbe : be = 1 + drawL (ns.take 9) 2 2) (hf : f = drawL (ns.take 9) 3 o) (hs : s = (f + 1 + drawL (ns.take 9) 4 (o - 1)).fmod o)
    (hx : x = 1 + drawL (ns.take 9) 5 4) (hy : y = 1 + drawL (ns.take 9) 6 4)
    (tail : ∀ (pn rn vn : Nat) (σ : Store), rn ≠ vn → σ[rn]? = some (.list []) → σ[vn]? = some (.list []) → Run ⟨fun g => (P0.find g).isSome, P0.gl, callF P0 (m + 9)⟩ 39 ⟨(recAt 43).scope.names, []⟩ ((recAt 43).body.drop 7) [(Str.ofString "script", some (.ilist ns)), (Str.ofString "pool", some (.obj pn)), (Str.ofString "order", some (.int o)), (Str.ofString "alpha", some (.int al)), (Str.ofString "beta", some (.int be)), (Str.ofString "first", some (.int f)), (Str.ofString "second", some (.int s)), (Str.ofString "x", some (.int x)), (Str.ofString "y", some (.int y)), (Str.ofString "row", some (.obj rn)), (Str.ofString "values", some (.obj vn)), (Str.ofString "at", Option.none), (Str.ofString "told", Option.none), (Str.ofString "below", Option.none), (Str.ofString "last", Option.none)] σ LawQ) :
    ∃ v σ', callF P0 (m + 10) (Str.ofString "law") [.ilist ns] [] = some (v, σ') ∧ v = .bool true := by
  have hcl : (ns.take 9).length ≤ 9 := by simp; exact ar130
  generalize hcs : ns.take 9 = cs at *
  have hlim : cs.length < lim := by unfold lim; exact ar131 hcl
  have r0 := drawL_range (cs := cs) (i := 0) (many := 4) (by decide)
  have o2 : 2 ≤ o := by exact ar132 ho r0
  apply call_run _ find_law ok_law
  · exact rfl
  · apply R_asgE
    · exact .inl rfl
    apply X_list2
    · intro _ _ h; cases h
    · intro _ _ h; cases h
    have key := fun (T : Tb) (d : Nat) (cx : Cx) (inner : Rho → Store → Option (Rho × Store)) (pp : Pos) (hs : _) => comp_list (T := T) (d := d) (cx := cx) (inner := inner) (x := Str.ofString "cell") (p := pp) (n := 0) (vs := cs.map V.int) (step := intS) (fun acc ρ' σ' => ∃ o, ρ' = [(Str.ofString ".0", Option.none), (Str.ofString "cell", o)] ∧ σ'[0]? = some (.list (cs.map V.int)) ∧ σ'[1]? = some (.list (acc.map V.int))) (fun acc ρ σ' hr => by obtain ⟨o, rfl, h0, h1⟩ := hr; exact h0) hs (cs.map V.int) 0 (bud - (cs.length + 1)) [] cs [(Str.ofString ".0", Option.none), (Str.ofString "cell", Option.none)] [.list (cs.map V.int), .list []] rfl (by simpa using fold_intS (cs := cs) (acc := []) (by simp; exact ar133 hcl)) ⟨none, rfl, rfl, rfl⟩
    apply X_lcomp (σ1 := [.list (cs.map V.int)]) (it := .list 0 0)
    · exact .inl rfl
    · exact ⟨by decide +kernel, rfl⟩
    · apply R_sub
      · apply E_slice9 (σ1 := ([] : Store)) hcs
        exact E_name rfl rfl
      · exact rfl
    · exact rfl
    · have hb : bud = (cs.map V.int).length + 1 + (bud - (cs.length + 1)) := by simp; unfold bud; exact ar134 hcl
      rw [hb]
      refine key _ _ _ _ _ ?_
      rintro acc v acc' ρ σ' hv hs' ⟨o', rfl, h0, h1⟩
      unfold intS at hs'
      split at hs'
      rotate_left
      · cases hs'
      rename_i i
      split at hs'
      rotate_left
      · cases hs'
      rename_i hl
      cases hs'
      refine ⟨_, rfl, _, σ'.set 1 (.list (acc.map V.int ++ [.int i])), ?_, some (.int i), rfl, by rw [List.getElem?_set_ne (by decide)]; exact h0, by rw [get_set h1]; simp⟩
      apply G_nil
      apply M_list
      · repeat' (first
    | exact E_int | exact E_str | exact E_none | exact E_bool
    | exact E_name rfl rfl
    | apply E_bin | apply E_neg | (apply E_sub; case hs => (intro _ _ _ _ h; cases h))
    | apply E_tup | apply E_list | exact L_nil | (apply L_cons; case hs => (intro _ _ h; cases h))
    | (apply E_bi; (case hb => exact rfl); (case hf => kernel_rfl); (case hg => exact ⟨rfl, rfl, of_decide_eq_true rfl⟩))
    | (apply E_call; (case hf => kernel_rfl); (case hg => exact ⟨rfl, rfl, of_decide_eq_true rfl⟩))
    | exact O_add | exact O_sub | apply O_mul | apply O_div | apply O_mod
    | (apply T_cmp; case hm => exact rfl) | apply T_not | apply T_bop
    | fail
    | assumption
    | fail
    | exact of_decide_eq_true rfl
    | exact rfl)
      · exact h1
      · simpa using hl
    rintro ρ' σ1 ⟨o', rfl, g0, g1⟩
    apply X_of
    · exact E_int
    refine ⟨_, rfl, ?_⟩
    have hp : (σ1 ++ [Cell.list [.obj 1, .int 0]])[σ1.length]? = some (.list [.obj 1, .int ((0 : Nat) : Int)]) := get_last
    have hsn : (σ1 ++ [Cell.list [.obj 1, .int 0]])[1]? = some (.list (cs.map V.int)) := Ext.app 1 _ g1
    have hne : 1 ≠ σ1.length := fun q => by
      have := (List.getElem?_eq_some_iff.mp g1).1
      omega
    show Run _ _ _ _ _ (σ1 ++ [Cell.list [.obj 1, .int 0]]) _
    generalize σ1.length = pn at hp hne ⊢
    generalize σ1 ++ [Cell.list [.obj 1, .int 0]] = τ0 at hp hsn ⊢
    obtain ⟨τ1, c0, p1, s1⟩ := draw_ex (m := m + 8) (many := 4) hp hsn hne (by decide) hlim (by decide)
    obtain ⟨τ2, c1, p2, s2⟩ := draw_ex (m := m + 8) (many := 2) p1 s1 hne (by decide) hlim (by decide)
    obtain ⟨τ3, c2, p3, s3⟩ := draw_ex (m := m + 8) (many := 2) p2 s2 hne (by decide) hlim (by decide)
    apply R_tupS
    · repeat' (first
    | exact E_int | exact E_str | exact E_none | exact E_bool
    | exact E_name rfl rfl
    | apply E_bin | apply E_neg | (apply E_sub; case hs => (intro _ _ _ _ h; cases h))
    | apply E_tup | apply E_list | exact L_nil | (apply L_cons; case hs => (intro _ _ h; cases h))
    | (apply E_bi; (case hb => exact rfl); (case hf => kernel_rfl); (case hg => exact ⟨rfl, rfl, of_decide_eq_true rfl⟩))
    | (apply E_call; (case hf => kernel_rfl); (case hg => exact ⟨rfl, rfl, of_decide_eq_true rfl⟩))
    | exact O_add | exact O_sub | apply O_mul | apply O_div | apply O_mod
    | (apply T_cmp; case hm => exact rfl) | apply T_not | apply T_bop
    | exact c0 | exact c1 | exact c2
    | assumption
    | fail
    | exact of_decide_eq_true rfl
    | exact rfl)
    · exact rfl
    · exact ⟨by decide +kernel, rfl, by decide +kernel⟩
    rw [← ho, ← hbe]
    obtain ⟨τ4, c3, p4, s4⟩ := draw_ex (m := m + 8) (many := o) p3 s3 hne (by decide) hlim (by exact ar144 ho r0)
    obtain ⟨τ5, c4, p5, s5⟩ := draw_ex (m := m + 8) (many := o - 1) p4 s4 hne (by decide) hlim (by exact ar145 ho r0)
    obtain ⟨τ6, c5, p6, s6⟩ := draw_ex (m := m + 8) (many := 4) p5 s5 hne (by decide) hlim (by decide)
    obtain ⟨τ7, c6, p7, s7⟩ := draw_ex (m := m + 8) (many := 4) p6 s6 hne (by decide) hlim (by decide)
    have oz : o ≠ 0 := by exact ar146 ho r0
    have step2 : Run ⟨fun g => (P0.find g).isSome, P0.gl, callF P0 (m + 9)⟩ 39 ⟨(recAt 43).scope.names, []⟩ ((recAt 43).body.drop 3) [(Str.ofString "script", some (.ilist ns)), (Str.ofString "pool", some (.obj pn)), (Str.ofString "order", some (.int o)), (Str.ofString "alpha", some (.int al)), (Str.ofString "beta", some (.int be)), (Str.ofString "first", Option.none), (Str.ofString "second", Option.none), (Str.ofString "x", Option.none), (Str.ofString "y", Option.none), (Str.ofString "row", Option.none), (Str.ofString "values", Option.none), (Str.ofString "at", Option.none), (Str.ofString "told", Option.none), (Str.ofString "below", Option.none), (Str.ofString "last", Option.none)] τ3 LawQ := by
      apply R_asg
      · repeat' (first
    | exact E_int | exact E_str | exact E_none | exact E_bool
    | exact E_name rfl rfl
    | apply E_bin | apply E_neg | (apply E_sub; case hs => (intro _ _ _ _ h; cases h))
    | apply E_tup | apply E_list | exact L_nil | (apply L_cons; case hs => (intro _ _ h; cases h))
    | (apply E_bi; (case hb => exact rfl); (case hf => kernel_rfl); (case hg => exact ⟨rfl, rfl, of_decide_eq_true rfl⟩))
    | (apply E_call; (case hf => kernel_rfl); (case hg => exact ⟨rfl, rfl, of_decide_eq_true rfl⟩))
    | exact O_add | exact O_sub | apply O_mul | apply O_div | apply O_mod
    | (apply T_cmp; case hm => exact rfl) | apply T_not | apply T_bop
    | exact c3
    | assumption
    | fail
    | exact of_decide_eq_true rfl
    | exact rfl)
      · exact rfl
      · exact .inl rfl
      rw [← hf]
      apply R_asg
      · repeat' (first
    | exact E_int | exact E_str | exact E_none | exact E_bool
    | exact E_name rfl rfl
    | apply E_bin | apply E_neg | (apply E_sub; case hs => (intro _ _ _ _ h; cases h))
    | apply E_tup | apply E_list | exact L_nil | (apply L_cons; case hs => (intro _ _ h; cases h))
    | (apply E_bi; (case hb => exact rfl); (case hf => kernel_rfl); (case hg => exact ⟨rfl, rfl, of_decide_eq_true rfl⟩))
    | (apply E_call; (case hf => kernel_rfl); (case hg => exact ⟨rfl, rfl, of_decide_eq_true rfl⟩))
    | exact O_add | exact O_sub | apply O_mul | apply O_div | apply O_mod
    | (apply T_cmp; case hm => exact rfl) | apply T_not | apply T_bop
    | exact c4
    | assumption
    | fail
    | exact of_decide_eq_true rfl
    | exact rfl)
      · exact rfl
      · exact .inl rfl
      rw [← hs]
      apply R_tupS
      · repeat' (first
    | exact E_int | exact E_str | exact E_none | exact E_bool
    | exact E_name rfl rfl
    | apply E_bin | apply E_neg | (apply E_sub; case hs => (intro _ _ _ _ h; cases h))
    | apply E_tup | apply E_list | exact L_nil | (apply L_cons; case hs => (intro _ _ h; cases h))
    | (apply E_bi; (case hb => exact rfl); (case hf => kernel_rfl); (case hg => exact ⟨rfl, rfl, of_decide_eq_true rfl⟩))
    | (apply E_call; (case hf => kernel_rfl); (case hg => exact ⟨rfl, rfl, of_decide_eq_true rfl⟩))
    | exact O_add | exact O_sub | apply O_mul | apply O_div | apply O_mod
    | (apply T_cmp; case hm => exact rfl) | apply T_not | apply T_bop
    | exact c5 | exact c6
    | assumption
    | fail
    | exact of_decide_eq_true rfl
    | exact rfl)
      · exact rfl
      · exact ⟨by decide +kernel, rfl, by decide +kernel⟩
      rw [← hx, ← hy]
      apply R_tupS
      · repeat' (first
    | exact E_int | exact E_str | exact E_none | exact E_bool
    | exact E_name rfl rfl
    | apply E_bin | apply E_neg | (apply E_sub; case hs => (intro _ _ _ _ h; cases h))
    | apply E_tup | apply E_list | exact L_nil | (apply L_cons; case hs => (intro _ _ h; cases h))
    | (apply E_bi; (case hb => exact rfl); (case hf => kernel_rfl); (case hg => exact ⟨rfl, rfl, of_decide_eq_true rfl⟩))
    | (apply E_call; (case hf => kernel_rfl); (case hg => exact ⟨rfl, rfl, of_decide_eq_true rfl⟩))
    | exact O_add | exact O_sub | apply O_mul | apply O_div | apply O_mod
    | (apply T_cmp; case hm => exact rfl) | apply T_not | apply T_bop
    | fail
    | assumption
    | fail
    | exact of_decide_eq_true rfl
    | exact rfl)
      · exact rfl
      · exact ⟨by decide +kernel, rfl, by decide +kernel⟩
      exact tail pn _ _ _ (by simp) (Ext.app _ _ get_last) get_last
    by_cases h3 : 3 < o
    · have h3' := decide_eq_true h3
      rw [if_pos h3] at hal
      apply R_asg
      · apply E_ifT
        · repeat' (first
    | exact E_int | exact E_str | exact E_none | exact E_bool
    | exact E_name rfl rfl
    | apply E_bin | apply E_neg | (apply E_sub; case hs => (intro _ _ _ _ h; cases h))
    | apply E_tup | apply E_list | exact L_nil | (apply L_cons; case hs => (intro _ _ h; cases h))
    | (apply E_bi; (case hb => exact rfl); (case hf => kernel_rfl); (case hg => exact ⟨rfl, rfl, of_decide_eq_true rfl⟩))
    | (apply E_call; (case hf => kernel_rfl); (case hg => exact ⟨rfl, rfl, of_decide_eq_true rfl⟩))
    | exact O_add | exact O_sub | apply O_mul | apply O_div | apply O_mod
    | (apply T_cmp; case hm => exact rfl) | apply T_not | apply T_bop
    | fail
    | assumption
    | fail
    | exact of_decide_eq_true rfl
    | exact rfl)
        · repeat' (first
    | exact E_int | exact E_str | exact E_none | exact E_bool
    | exact E_name rfl rfl
    | apply E_bin | apply E_neg | (apply E_sub; case hs => (intro _ _ _ _ h; cases h))
    | apply E_tup | apply E_list | exact L_nil | (apply L_cons; case hs => (intro _ _ h; cases h))
    | (apply E_bi; (case hb => exact rfl); (case hf => kernel_rfl); (case hg => exact ⟨rfl, rfl, of_decide_eq_true rfl⟩))
    | (apply E_call; (case hf => kernel_rfl); (case hg => exact ⟨rfl, rfl, of_decide_eq_true rfl⟩))
    | exact O_add | exact O_sub | apply O_mul | apply O_div | apply O_mod
    | (apply T_cmp; case hm => exact rfl) | apply T_not | apply T_bop
    | fail
    | assumption
    | fail
    | exact of_decide_eq_true rfl
    | exact rfl)
      · exact rfl
      · exact .inl rfl
      rw [← hal]
      exact step2
    · have h3' := decide_eq_false h3
      rw [if_neg h3] at hal
      apply R_asg
      · apply E_ifF
        · repeat' (first
    | exact E_int | exact E_str | exact E_none | exact E_bool
    | exact E_name rfl rfl
    | apply E_bin | apply E_neg | (apply E_sub; case hs => (intro _ _ _ _ h; cases h))
    | apply E_tup | apply E_list | exact L_nil | (apply L_cons; case hs => (intro _ _ h; cases h))
    | (apply E_bi; (case hb => exact rfl); (case hf => kernel_rfl); (case hg => exact ⟨rfl, rfl, of_decide_eq_true rfl⟩))
    | (apply E_call; (case hf => kernel_rfl); (case hg => exact ⟨rfl, rfl, of_decide_eq_true rfl⟩))
    | exact O_add | exact O_sub | apply O_mul | apply O_div | apply O_mod
    | (apply T_cmp; case hm => exact rfl) | apply T_not | apply T_bop
    | fail
    | assumption
    | fail
    | exact of_decide_eq_true rfl
    | exact rfl)
        · repeat' (first
    | exact E_int | exact E_str | exact E_none | exact E_bool
    | exact E_name rfl rfl
    | apply E_bin | apply E_neg | (apply E_sub; case hs => (intro _ _ _ _ h; cases h))
    | apply E_tup | apply E_list | exact L_nil | (apply L_cons; case hs => (intro _ _ h; cases h))
    | (apply E_bi; (case hb => exact rfl); (case hf => kernel_rfl); (case hg => exact ⟨rfl, rfl, of_decide_eq_true rfl⟩))
    | (apply E_call; (case hf => kernel_rfl); (case hg => exact ⟨rfl, rfl, of_decide_eq_true rfl⟩))
    | exact O_add | exact O_sub | apply O_mul | apply O_div | apply O_mod
    | (apply T_cmp; case hm => exact rfl) | apply T_not | apply T_bop
    | fail
    | assumption
    | fail
    | exact of_decide_eq_true rfl
    | exact rfl)
      · exact rfl
      · exact .inl rfl
      subst hal
      exact step2
end Mine
set_option maxHeartbeats 8000000
namespace Mine
open PySem PyProof.Rows
section
variable {T : Tb} {d : Nat} {cx : Cx} {ρ : Rho} {σ σ1 σ2 : Store} {e e1 e2 e3 : Expr} {p : Pos} {v w : V}
theorem R_rangeN {g : Str} {q p : Pos} {a : Expr} {N : Nat} (hf : g = Str.ofString "range") (hg : cx.nm.lookup g = some .globalImplicit) (h : evalL (ev T d) cx [a] ρ σ = some ([.int (N : Nat)], σ1)) (hN : N < 10000) : iterE T (ev T d) cx (.Call (.Name g p) [a] [] q) ρ σ = some (.range 0 N, σ1) := by
  have := R_range (p := p) (q := q) hf hg h ⟨by exact Int.natCast_nonneg _, by exact ar135 hN⟩
  rwa [Int.toNat_natCast] at this
/-- a choice by what is known of the test -/
theorem E_if {c : Bool} (ht : (ev T d).t cx e ρ σ = some (c, σ1)) (h1 : c = true → (ev T d).e cx e1 ρ σ1 = some (v, σ1)) (h2 : c = false → (ev T d).e cx e2 ρ σ1 = some (w, σ1)) : (ev T (d + 1)).e cx (.IfExp e e1 e2 p) ρ σ = some (if c = true then v else w, σ1) := by
  cases c with
  | true => exact E_ifT ht (h1 rfl)
  | false => exact E_ifF ht (h2 rfl)
end
theorem ite_int {c : Bool} {P : Prop} [Decidable P] (h : c = decide P) {a b : Int} : (if c = true then V.int a else V.int b) = V.int (if P then a else b) := by
  subst h
  by_cases q : P <;> simp [q]
theorem init_loop {m N : Nat} {ns : List Int} {al be f s x y : Int} {pn rn vn : Nat} {σ : Store} (hN : N < 100) (hne : rn ≠ vn) (hr : σ[rn]? = some (.list [])) (hv : σ[vn]? = some (.list []))
    (tail : ∀ (oa : Option V) (rvs : List V) (σ' : Store), σ'[rn]? = some (.list rvs) → RowOK σ' rvs ((List.range N).map (initRow f s)) → σ'[vn]? = some (.list (((List.range N).map (initVal f s x y)).map qV)) → Run ⟨fun g => (P0.find g).isSome, P0.gl, callF P0 (m + 9)⟩ 39 ⟨(recAt 43).scope.names, []⟩ ((recAt 43).body.drop 8) [(Str.ofString "script", some (.ilist ns)), (Str.ofString "pool", some (.obj pn)), (Str.ofString "order", some (.int (N : Nat))), (Str.ofString "alpha", some (.int al)), (Str.ofString "beta", some (.int be)), (Str.ofString "first", some (.int f)), (Str.ofString "second", some (.int s)), (Str.ofString "x", some (.int x)), (Str.ofString "y", some (.int y)), (Str.ofString "row", some (.obj rn)), (Str.ofString "values", some (.obj vn)), (Str.ofString "at", oa), (Str.ofString "told", Option.none), (Str.ofString "below", Option.none), (Str.ofString "last", Option.none)] σ' LawQ) :
    Run ⟨fun g => (P0.find g).isSome, P0.gl, callF P0 (m + 9)⟩ 39 ⟨(recAt 43).scope.names, []⟩ ((recAt 43).body.drop 7) [(Str.ofString "script", some (.ilist ns)), (Str.ofString "pool", some (.obj pn)), (Str.ofString "order", some (.int (N : Nat))), (Str.ofString "alpha", some (.int al)), (Str.ofString "beta", some (.int be)), (Str.ofString "first", some (.int f)), (Str.ofString "second", some (.int s)), (Str.ofString "x", some (.int x)), (Str.ofString "y", some (.int y)), (Str.ofString "row", some (.obj rn)), (Str.ofString "values", some (.obj vn)), (Str.ofString "at", Option.none), (Str.ofString "told", Option.none), (Str.ofString "below", Option.none), (Str.ofString "last", Option.none)] σ LawQ := by
  refine R_forRange (N := N) (σ1 := σ) (fun i ρ' σ' => ∃ oa rvs, ρ' = [(Str.ofString "script", some (.ilist ns)), (Str.ofString "pool", some (.obj pn)), (Str.ofString "order", some (.int (N : Nat))), (Str.ofString "alpha", some (.int al)), (Str.ofString "beta", some (.int be)), (Str.ofString "first", some (.int f)), (Str.ofString "second", some (.int s)), (Str.ofString "x", some (.int x)), (Str.ofString "y", some (.int y)), (Str.ofString "row", some (.obj rn)), (Str.ofString "values", some (.obj vn)), (Str.ofString "at", oa), (Str.ofString "told", Option.none), (Str.ofString "below", Option.none), (Str.ofString "last", Option.none)] ∧ σ'[rn]? = some (.list rvs) ∧ RowOK σ' rvs ((List.range i).map (initRow f s)) ∧ σ'[vn]? = some (.list (((List.range i).map (initVal f s x y)).map qV))) ?_ (by exact Nat.lt_add_left _ hN) ⟨none, [], rfl, hr, ⟨rfl, fun i r e => by simp at e⟩, hv⟩ ?_ ?_
  · apply R_rangeN
    · exact rfl
    · exact rfl
    · repeat' (first
    | exact E_int | exact E_str | exact E_none | exact E_bool
    | exact E_name rfl rfl
    | apply E_bin | apply E_neg | (apply E_sub; case hs => (intro _ _ _ _ h; cases h))
    | apply E_tup | apply E_list | exact L_nil | (apply L_cons; case hs => (intro _ _ h; cases h))
    | (apply E_bi; (case hb => exact rfl); (case hf => kernel_rfl); (case hg => exact ⟨rfl, rfl, of_decide_eq_true rfl⟩))
    | (apply E_call; (case hf => kernel_rfl); (case hg => exact ⟨rfl, rfl, of_decide_eq_true rfl⟩))
    | exact O_add | exact O_sub | apply O_mul | apply O_div | apply O_mod
    | (apply T_cmp; case hm => exact rfl) | apply T_not | apply T_bop
    | fail
    | assumption
    | fail
    | exact of_decide_eq_true rfl
    | exact rfl)
    · exact Nat.lt_add_left _ hN
  · rintro i ρ σ' hi ⟨oa, rvs, rfl, h1, h2, h3⟩
    refine ⟨_, rfl, B_in ?_⟩
    have hl1 : rvs.length < lim := by rw [h2.1]; simp; unfold lim; exact ar40 hN hi
    -- the row
    have x1 : Ext σ' ((σ' ++ [Cell.dict [] 0]).set σ'.length (setD [] 0 [0, 0] (.tup [.int 1, .int 1]))) := Ext.app.set (Nat.le_refl _)
    have g1 : ((σ' ++ [Cell.dict [] 0]).set σ'.length (setD [] 0 [0, 0] (.tup [.int 1, .int 1])))[σ'.length]? = some (.dict (D [((0, 0), (1, 1))]) 1) := get_set get_last
    apply R_expr
    · apply E_meth
      · exact ⟨of_decide_eq_true rfl, rfl⟩
      · exact E_name rfl rfl
      · exact O_preA h1
      · apply L_cons
        · intro _ _ h; cases h
        · apply E_tup
          · apply L_cons
            · intro _ _ h; cases h
            · apply E_dict1
              · repeat' (first
    | exact E_int | exact E_str | exact E_none | exact E_bool
    | exact E_name rfl rfl
    | apply E_bin | apply E_neg | (apply E_sub; case hs => (intro _ _ _ _ h; cases h))
    | apply E_tup | apply E_list | exact L_nil | (apply L_cons; case hs => (intro _ _ h; cases h))
    | (apply E_bi; (case hb => exact rfl); (case hf => kernel_rfl); (case hg => exact ⟨rfl, rfl, of_decide_eq_true rfl⟩))
    | (apply E_call; (case hf => kernel_rfl); (case hg => exact ⟨rfl, rfl, of_decide_eq_true rfl⟩))
    | exact O_add | exact O_sub | apply O_mul | apply O_div | apply O_mod
    | (apply T_cmp; case hm => exact rfl) | apply T_not | apply T_bop
    | fail
    | assumption
    | fail
    | exact of_decide_eq_true rfl
    | exact rfl)
              · repeat' (first
    | exact E_int | exact E_str | exact E_none | exact E_bool
    | exact E_name rfl rfl
    | apply E_bin | apply E_neg | (apply E_sub; case hs => (intro _ _ _ _ h; cases h))
    | apply E_tup | apply E_list | exact L_nil | (apply L_cons; case hs => (intro _ _ h; cases h))
    | (apply E_bi; (case hb => exact rfl); (case hf => kernel_rfl); (case hg => exact ⟨rfl, rfl, of_decide_eq_true rfl⟩))
    | (apply E_call; (case hf => kernel_rfl); (case hg => exact ⟨rfl, rfl, of_decide_eq_true rfl⟩))
    | exact O_add | exact O_sub | apply O_mul | apply O_div | apply O_mod
    | (apply T_cmp; case hm => exact rfl) | apply T_not | apply T_bop
    | fail
    | assumption
    | fail
    | exact of_decide_eq_true rfl
    | exact rfl)
              · exact get_last
              · exact rfl
              · exact of_decide_eq_true rfl
            · apply L_cons
              · intro _ _ h; cases h
              · apply E_tup
                · apply L_cons
                  · intro _ _ h; cases h
                  · apply E_if
                    · repeat' (first
    | exact E_int | exact E_str | exact E_none | exact E_bool
    | exact E_name rfl rfl
    | apply E_bin | apply E_neg | (apply E_sub; case hs => (intro _ _ _ _ h; cases h))
    | apply E_tup | apply E_list | exact L_nil | (apply L_cons; case hs => (intro _ _ h; cases h))
    | (apply E_bi; (case hb => exact rfl); (case hf => kernel_rfl); (case hg => exact ⟨rfl, rfl, of_decide_eq_true rfl⟩))
    | (apply E_call; (case hf => kernel_rfl); (case hg => exact ⟨rfl, rfl, of_decide_eq_true rfl⟩))
    | exact O_add | exact O_sub | apply O_mul | apply O_div | apply O_mod
    | (apply T_cmp; case hm => exact rfl) | apply T_not | apply T_bop
    | fail
    | assumption
    | fail
    | exact of_decide_eq_true rfl
    | exact rfl)
                    · intro _
                      repeat' (first
    | exact E_int | exact E_str | exact E_none | exact E_bool
    | exact E_name rfl rfl
    | apply E_bin | apply E_neg | (apply E_sub; case hs => (intro _ _ _ _ h; cases h))
    | apply E_tup | apply E_list | exact L_nil | (apply L_cons; case hs => (intro _ _ h; cases h))
    | (apply E_bi; (case hb => exact rfl); (case hf => kernel_rfl); (case hg => exact ⟨rfl, rfl, of_decide_eq_true rfl⟩))
    | (apply E_call; (case hf => kernel_rfl); (case hg => exact ⟨rfl, rfl, of_decide_eq_true rfl⟩))
    | exact O_add | exact O_sub | apply O_mul | apply O_div | apply O_mod
    | (apply T_cmp; case hm => exact rfl) | apply T_not | apply T_bop
    | fail
    | assumption
    | fail
    | exact of_decide_eq_true rfl
    | exact rfl)
                    · intro _
                      repeat' (first
    | exact E_int | exact E_str | exact E_none | exact E_bool
    | exact E_name rfl rfl
    | apply E_bin | apply E_neg | (apply E_sub; case hs => (intro _ _ _ _ h; cases h))
    | apply E_tup | apply E_list | exact L_nil | (apply L_cons; case hs => (intro _ _ h; cases h))
    | (apply E_bi; (case hb => exact rfl); (case hf => kernel_rfl); (case hg => exact ⟨rfl, rfl, of_decide_eq_true rfl⟩))
    | (apply E_call; (case hf => kernel_rfl); (case hg => exact ⟨rfl, rfl, of_decide_eq_true rfl⟩))
    | exact O_add | exact O_sub | apply O_mul | apply O_div | apply O_mod
    | (apply T_cmp; case hm => exact rfl) | apply T_not | apply T_bop
    | fail
    | assumption
    | fail
    | exact of_decide_eq_true rfl
    | exact rfl)
                  · apply L_cons
                    · intro _ _ h; cases h
                    · apply E_if
                      · repeat' (first
    | exact E_int | exact E_str | exact E_none | exact E_bool
    | exact E_name rfl rfl
    | apply E_bin | apply E_neg | (apply E_sub; case hs => (intro _ _ _ _ h; cases h))
    | apply E_tup | apply E_list | exact L_nil | (apply L_cons; case hs => (intro _ _ h; cases h))
    | (apply E_bi; (case hb => exact rfl); (case hf => kernel_rfl); (case hg => exact ⟨rfl, rfl, of_decide_eq_true rfl⟩))
    | (apply E_call; (case hf => kernel_rfl); (case hg => exact ⟨rfl, rfl, of_decide_eq_true rfl⟩))
    | exact O_add | exact O_sub | apply O_mul | apply O_div | apply O_mod
    | (apply T_cmp; case hm => exact rfl) | apply T_not | apply T_bop
    | fail
    | assumption
    | fail
    | exact of_decide_eq_true rfl
    | exact rfl)
                      · intro _
                        repeat' (first
    | exact E_int | exact E_str | exact E_none | exact E_bool
    | exact E_name rfl rfl
    | apply E_bin | apply E_neg | (apply E_sub; case hs => (intro _ _ _ _ h; cases h))
    | apply E_tup | apply E_list | exact L_nil | (apply L_cons; case hs => (intro _ _ h; cases h))
    | (apply E_bi; (case hb => exact rfl); (case hf => kernel_rfl); (case hg => exact ⟨rfl, rfl, of_decide_eq_true rfl⟩))
    | (apply E_call; (case hf => kernel_rfl); (case hg => exact ⟨rfl, rfl, of_decide_eq_true rfl⟩))
    | exact O_add | exact O_sub | apply O_mul | apply O_div | apply O_mod
    | (apply T_cmp; case hm => exact rfl) | apply T_not | apply T_bop
    | fail
    | assumption
    | fail
    | exact of_decide_eq_true rfl
    | exact rfl)
                      · intro _
                        repeat' (first
    | exact E_int | exact E_str | exact E_none | exact E_bool
    | exact E_name rfl rfl
    | apply E_bin | apply E_neg | (apply E_sub; case hs => (intro _ _ _ _ h; cases h))
    | apply E_tup | apply E_list | exact L_nil | (apply L_cons; case hs => (intro _ _ h; cases h))
    | (apply E_bi; (case hb => exact rfl); (case hf => kernel_rfl); (case hg => exact ⟨rfl, rfl, of_decide_eq_true rfl⟩))
    | (apply E_call; (case hf => kernel_rfl); (case hg => exact ⟨rfl, rfl, of_decide_eq_true rfl⟩))
    | exact O_add | exact O_sub | apply O_mul | apply O_div | apply O_mod
    | (apply T_cmp; case hm => exact rfl) | apply T_not | apply T_bop
    | fail
    | assumption
    | fail
    | exact of_decide_eq_true rfl
    | exact rfl)
                    · exact L_nil
                · exact of_decide_eq_true rfl
              · exact L_nil
          · exact of_decide_eq_true rfl
        · exact L_nil
      · exact O_app (x1 _ _ h1) hl1
    have nr : rn ≠ σ'.length := Nat.ne_of_lt (List.getElem?_eq_some_iff.mp h1).1
    have ev1 : (if (((i : Nat) : Int) == f) = true then V.int (-1) else V.int 0) = V.int (initRow f s i).2.1 := by
      unfold initRow
      by_cases q : ((i : Nat) : Int) = f <;> simp [q]
    have ev2 : (if (((i : Nat) : Int) == s) = true then V.int (-1) else V.int 0) = V.int (initRow f s i).2.2 := by
      unfold initRow
      by_cases q : ((i : Nat) : Int) = s <;> simp [q]
    rw [ev1, ev2]
    have k1 := get_set (c := .list (rvs ++ [.tup [.obj σ'.length, qV (initRow f s i).2]])) (x1 _ _ h1)
    have k2 : RowOK _ _ _ := ((h2.ext x1).set (c := .list (rvs ++ [.tup [.obj σ'.length, qV (initRow f s i).2]])) (x1 _ _ h1)).snoc (r := initRow f s i) (j := σ'.length) (ep := 1) (by
      rw [List.getElem?_set_ne nr]
      exact g1)
    have k3 : (((σ' ++ [Cell.dict [] 0]).set σ'.length (setD [] 0 [0, 0] (.tup [.int 1, .int 1]))).set rn (.list (rvs ++ [.tup [.obj σ'.length, qV (initRow f s i).2]])))[vn]? = some (.list (((List.range i).map (initVal f s x y)).map qV)) := by
      rw [List.getElem?_set_ne hne]
      exact x1 _ _ h3
    generalize (((σ' ++ [Cell.dict [] 0]).set σ'.length (setD [] 0 [0, 0] (.tup [.int 1, .int 1]))).set rn (.list (rvs ++ [.tup [.obj σ'.length, qV (initRow f s i).2]]))) = σ2 at k1 k2 k3 ⊢
    have hl2 : (((List.range i).map (initVal f s x y)).map qV).length < lim := by simp; unfold lim; exact ar40 hN hi
    apply R_expr
    · apply E_meth
      · exact ⟨of_decide_eq_true rfl, rfl⟩
      · exact E_name rfl rfl
      · exact O_preA k3
      · apply L_cons
        · intro _ _ h; cases h
        · apply E_tup
          · apply L_cons
            · intro _ _ h; cases h
            · apply E_if
              · repeat' (first
    | exact E_int | exact E_str | exact E_none | exact E_bool
    | exact E_name rfl rfl
    | apply E_bin | apply E_neg | (apply E_sub; case hs => (intro _ _ _ _ h; cases h))
    | apply E_tup | apply E_list | exact L_nil | (apply L_cons; case hs => (intro _ _ h; cases h))
    | (apply E_bi; (case hb => exact rfl); (case hf => kernel_rfl); (case hg => exact ⟨rfl, rfl, of_decide_eq_true rfl⟩))
    | (apply E_call; (case hf => kernel_rfl); (case hg => exact ⟨rfl, rfl, of_decide_eq_true rfl⟩))
    | exact O_add | exact O_sub | apply O_mul | apply O_div | apply O_mod
    | (apply T_cmp; case hm => exact rfl) | apply T_not | apply T_bop
    | fail
    | assumption
    | fail
    | exact of_decide_eq_true rfl
    | exact rfl)
              · intro _
                repeat' (first
    | exact E_int | exact E_str | exact E_none | exact E_bool
    | exact E_name rfl rfl
    | apply E_bin | apply E_neg | (apply E_sub; case hs => (intro _ _ _ _ h; cases h))
    | apply E_tup | apply E_list | exact L_nil | (apply L_cons; case hs => (intro _ _ h; cases h))
    | (apply E_bi; (case hb => exact rfl); (case hf => kernel_rfl); (case hg => exact ⟨rfl, rfl, of_decide_eq_true rfl⟩))
    | (apply E_call; (case hf => kernel_rfl); (case hg => exact ⟨rfl, rfl, of_decide_eq_true rfl⟩))
    | exact O_add | exact O_sub | apply O_mul | apply O_div | apply O_mod
    | (apply T_cmp; case hm => exact rfl) | apply T_not | apply T_bop
    | fail
    | assumption
    | fail
    | exact of_decide_eq_true rfl
    | exact rfl)
              · intro _
                apply E_if
                · repeat' (first
    | exact E_int | exact E_str | exact E_none | exact E_bool
    | exact E_name rfl rfl
    | apply E_bin | apply E_neg | (apply E_sub; case hs => (intro _ _ _ _ h; cases h))
    | apply E_tup | apply E_list | exact L_nil | (apply L_cons; case hs => (intro _ _ h; cases h))
    | (apply E_bi; (case hb => exact rfl); (case hf => kernel_rfl); (case hg => exact ⟨rfl, rfl, of_decide_eq_true rfl⟩))
    | (apply E_call; (case hf => kernel_rfl); (case hg => exact ⟨rfl, rfl, of_decide_eq_true rfl⟩))
    | exact O_add | exact O_sub | apply O_mul | apply O_div | apply O_mod
    | (apply T_cmp; case hm => exact rfl) | apply T_not | apply T_bop
    | fail
    | assumption
    | fail
    | exact of_decide_eq_true rfl
    | exact rfl)
                · intro _
                  repeat' (first
    | exact E_int | exact E_str | exact E_none | exact E_bool
    | exact E_name rfl rfl
    | apply E_bin | apply E_neg | (apply E_sub; case hs => (intro _ _ _ _ h; cases h))
    | apply E_tup | apply E_list | exact L_nil | (apply L_cons; case hs => (intro _ _ h; cases h))
    | (apply E_bi; (case hb => exact rfl); (case hf => kernel_rfl); (case hg => exact ⟨rfl, rfl, of_decide_eq_true rfl⟩))
    | (apply E_call; (case hf => kernel_rfl); (case hg => exact ⟨rfl, rfl, of_decide_eq_true rfl⟩))
    | exact O_add | exact O_sub | apply O_mul | apply O_div | apply O_mod
    | (apply T_cmp; case hm => exact rfl) | apply T_not | apply T_bop
    | fail
    | assumption
    | fail
    | exact of_decide_eq_true rfl
    | exact rfl)
                · intro _
                  repeat' (first
    | exact E_int | exact E_str | exact E_none | exact E_bool
    | exact E_name rfl rfl
    | apply E_bin | apply E_neg | (apply E_sub; case hs => (intro _ _ _ _ h; cases h))
    | apply E_tup | apply E_list | exact L_nil | (apply L_cons; case hs => (intro _ _ h; cases h))
    | (apply E_bi; (case hb => exact rfl); (case hf => kernel_rfl); (case hg => exact ⟨rfl, rfl, of_decide_eq_true rfl⟩))
    | (apply E_call; (case hf => kernel_rfl); (case hg => exact ⟨rfl, rfl, of_decide_eq_true rfl⟩))
    | exact O_add | exact O_sub | apply O_mul | apply O_div | apply O_mod
    | (apply T_cmp; case hm => exact rfl) | apply T_not | apply T_bop
    | fail
    | assumption
    | fail
    | exact of_decide_eq_true rfl
    | exact rfl)
            · repeat' (first
    | exact E_int | exact E_str | exact E_none | exact E_bool
    | exact E_name rfl rfl
    | apply E_bin | apply E_neg | (apply E_sub; case hs => (intro _ _ _ _ h; cases h))
    | apply E_tup | apply E_list | exact L_nil | (apply L_cons; case hs => (intro _ _ h; cases h))
    | (apply E_bi; (case hb => exact rfl); (case hf => kernel_rfl); (case hg => exact ⟨rfl, rfl, of_decide_eq_true rfl⟩))
    | (apply E_call; (case hf => kernel_rfl); (case hg => exact ⟨rfl, rfl, of_decide_eq_true rfl⟩))
    | exact O_add | exact O_sub | apply O_mul | apply O_div | apply O_mod
    | (apply T_cmp; case hm => exact rfl) | apply T_not | apply T_bop
    | fail
    | assumption
    | fail
    | exact of_decide_eq_true rfl
    | exact rfl)
          · exact of_decide_eq_true rfl
        · exact L_nil
      · exact O_app k3 hl2
    have ev3 : (if (((i : Nat) : Int) == f) = true then V.int x else if (((i : Nat) : Int) == s) = true then V.int y else V.int 1) = V.int (initVal f s x y i).1 := by
      by_cases q : ((i : Nat) : Int) = f
      · have qb : (((i : Nat) : Int) == f) = true := by simpa using q
        rw [qb]
        show V.int x = V.int (if ((i : Nat) : Int) = f then x else _)
        rw [if_pos q]
      · have qb : (((i : Nat) : Int) == f) = false := by simpa using q
        rw [qb]
        show (if (((i : Nat) : Int) == s) = true then V.int y else V.int 1) = V.int (if ((i : Nat) : Int) = f then x else if ((i : Nat) : Int) = s then y else 1)
        rw [if_neg q]
        by_cases q2 : ((i : Nat) : Int) = s
        · have qb2 : (((i : Nat) : Int) == s) = true := by simpa using q2
          rw [qb2, if_pos q2]; rfl
        · have qb2 : (((i : Nat) : Int) == s) = false := by simpa using q2
          rw [qb2, if_neg q2]; rfl
    rw [ev3]
    apply R_nil
    refine ⟨.inl rfl, _, _, rfl, by rw [List.getElem?_set_ne (Ne.symm hne)]; exact k1, ?_, ?_⟩
    · rw [List.range_succ, List.map_append]
      exact k2.set k3
    · rw [get_set k3, List.range_succ]
      simp
      rfl
  · rintro ρ' σ' ⟨oa, rvs, rfl, h1, h2, h3⟩
    exact tail oa rvs σ' h1 h2 h3
end Mine
set_option maxHeartbeats 8000000
namespace Mine
open PySem PyProof.Rows
noncomputable def lawStep (o al be x y : Int) (B : Nat) (st : LS) : Option (Option LS) := if st.1.length < 9000 ∧ st.2.length < 9000 then (if st.1.length ≤ B then (match polyStep o al be st.1 with
  | some r => (match pointStep o al be x y r st.2 with
    | some v => some (some (st.1 ++ [r], st.2 ++ [v]))
    | none => none)
  | none => none) else some none) else none
theorem O_lastI {σ : Store} {n : Nat} {vs : List V} {v : V} (h : σ[n]? = some (.list (vs ++ [v]))) (hl : vs.length < 9000) : getitem (.obj n) (.int (-1)) σ = some v := by
  refine O_idx h ?_
  unfold at?
  rw [if_neg (by decide), if_pos ⟨by simp; exact Int.le_add_of_nonneg_left (Int.natCast_nonneg _), by simp; unfold lim; exact ar137 hl⟩]
  have : ((-1 : Int) + ((vs ++ [v]).length : Nat)).toNat = vs.length := by simp; exact ar138
  rw [this]
  simp
inductive LawInv (o al be x y : Int) (B : Nat) (rows : List (PL × Q2)) (vals : List Q2) (st' : LS) : Prop
  | mk (r : PL × Q2) (v : Q2) : rows.length < 9000 ∧ vals.length < 9000 → rows.length ≤ B → nextL rows o al be = some r → fairL r.1 = true → pointStep o al be x y r vals = some v → st' = (rows ++ [r], vals ++ [v]) → LawInv o al be x y B rows vals st'
theorem law_inv {o al be x y : Int} {B : Nat} {rows : List (PL × Q2)} {vals : List Q2} {st' : LS} (hstep : lawStep o al be x y B (rows, vals) = some (some st')) : LawInv o al be x y B rows vals st' := by
  unfold lawStep at hstep
  dsimp only at hstep
  split at hstep
  rotate_left
  · cases hstep
  rename_i hll
  split at hstep
  rotate_left
  · cases hstep
  rename_i hle
  split at hstep
  rotate_left
  · cases hstep
  rename_i r hpoly
  split at hstep
  rotate_left
  · cases hstep
  rename_i v hpt
  cases hstep
  unfold polyStep at hpoly
  split at hpoly
  rotate_left
  · cases hpoly
  rename_i r' hnext
  split at hpoly
  rotate_left
  · cases hpoly
  rename_i hfair
  cases hpoly
  exact ⟨_, v, hll, hle, hnext, hfair, hpt, rfl⟩
theorem law_inv0 {o al be x y : Int} {B : Nat} {rows : List (PL × Q2)} {vals : List Q2} (hstep : lawStep o al be x y B (rows, vals) = some none) : (rows.length < 9000 ∧ vals.length < 9000) ∧ ¬ rows.length ≤ B := by
  unfold lawStep at hstep
  dsimp only at hstep
  split at hstep
  rotate_left
  · cases hstep
  rename_i hll
  split at hstep
  · repeat' (split at hstep)
    all_goals cases hstep
  rename_i hle
  exact ⟨hll, hle⟩
inductive LawRel (ns : List Int) (pn N : Nat) (al be f s x y : Int) (rn vn : Nat) (st : LS) (ρ' : Rho) (σ' : Store) : Prop
  | mk (oa ot ob : Option V) (rvs : List V) : ρ' = [(Str.ofString "script", some (.ilist ns)), (Str.ofString "pool", some (.obj pn)), (Str.ofString "order", some (.int ((N : Nat) : Int))), (Str.ofString "alpha", some (.int al)), (Str.ofString "beta", some (.int be)), (Str.ofString "first", some (.int f)), (Str.ofString "second", some (.int s)), (Str.ofString "x", some (.int x)), (Str.ofString "y", some (.int y)), (Str.ofString "row", some (.obj rn)), (Str.ofString "values", some (.obj vn)), (Str.ofString "at", oa), (Str.ofString "told", ot), (Str.ofString "below", ob), (Str.ofString "last", Option.none)] → σ'[rn]? = some (.list rvs) → RowOK σ' rvs st.1 → σ'[vn]? = some (.list (st.2.map qV)) → LawRel ns pn N al be f s x y rn vn st ρ' σ'
theorem law_loop {m N B : Nat} {ns : List Int} {al be f s x y : Int} {pn rn vn : Nat} {oa : Option V} {rvs0 : List V} {σ : Store} {rows0 : List (PL × Q2)} {vals0 : List Q2} {st : LS} (hne : rn ≠ vn) (hB : at? [.int 5, .int 6, .int 8, .int 10] ((N : Int) - 2) = some (.int (B : Nat)))
    (hr : σ[rn]? = some (.list rvs0)) (ho : RowOK σ rvs0 rows0) (hv : σ[vn]? = some (.list (vals0.map qV))) (hrun : iterF (lawStep N al be x y B) 50 (rows0, vals0) = some st)
    (tail : ∀ (oa ot ob : Option V) (rvs : List V) (σ' : Store), σ'[rn]? = some (.list rvs) → RowOK σ' rvs st.1 → Run ⟨fun g => (P0.find g).isSome, P0.gl, callF P0 (m + 9)⟩ 39 ⟨(recAt 43).scope.names, []⟩ ((recAt 43).body.drop 9) [(Str.ofString "script", some (.ilist ns)), (Str.ofString "pool", some (.obj pn)), (Str.ofString "order", some (.int (N : Nat))), (Str.ofString "alpha", some (.int al)), (Str.ofString "beta", some (.int be)), (Str.ofString "first", some (.int f)), (Str.ofString "second", some (.int s)), (Str.ofString "x", some (.int x)), (Str.ofString "y", some (.int y)), (Str.ofString "row", some (.obj rn)), (Str.ofString "values", some (.obj vn)), (Str.ofString "at", oa), (Str.ofString "told", ot), (Str.ofString "below", ob), (Str.ofString "last", Option.none)] σ' LawQ) :
    Run ⟨fun g => (P0.find g).isSome, P0.gl, callF P0 (m + 9)⟩ 39 ⟨(recAt 43).scope.names, []⟩ ((recAt 43).body.drop 8) [(Str.ofString "script", some (.ilist ns)), (Str.ofString "pool", some (.obj pn)), (Str.ofString "order", some (.int (N : Nat))), (Str.ofString "alpha", some (.int al)), (Str.ofString "beta", some (.int be)), (Str.ofString "first", some (.int f)), (Str.ofString "second", some (.int s)), (Str.ofString "x", some (.int x)), (Str.ofString "y", some (.int y)), (Str.ofString "row", some (.obj rn)), (Str.ofString "values", some (.obj vn)), (Str.ofString "at", oa), (Str.ofString "told", Option.none), (Str.ofString "below", Option.none), (Str.ofString "last", Option.none)] σ LawQ := by
  refine R_while (LawRel ns pn N al be f s x y rn vn) (k := 50) (by decide) hrun ⟨oa, none, none, rvs0, rfl, hr, ho, hv⟩ ?_ ?_ ?_
  · rintro ⟨rows, vals⟩ st' ρ σ' hstep ⟨oa, ot, ob, rvs, rfl, h1, h2, h3⟩
    obtain ⟨r, v, hll, hle, hnext, hfair, hpt, rfl⟩ := law_inv hstep
    clear hstep
    dsimp only at h2 h3
    have hlr : rvs.length < lim := by rw [h2.1]; unfold lim; exact ar41 hll
    have hlen : biCall .len [.obj rn] σ' = some (.int rows.length, σ') := by
      have := O_lenL h1 hlr
      rwa [h2.1] at this
    have hle' : decide (((rows.length : Nat) : Int) ≤ ((B : Nat) : Int)) = true := decide_eq_true (by exact ar139 hle)
    apply Tst.mk
    · repeat' (first
    | exact E_int | exact E_str | exact E_none | exact E_bool
    | exact E_name rfl rfl
    | apply E_bin | apply E_neg | (apply E_sub; case hs => (intro _ _ _ _ h; cases h))
    | apply E_tup | apply E_list | exact L_nil | (apply L_cons; case hs => (intro _ _ h; cases h))
    | (apply E_bi; (case hb => exact rfl); (case hf => kernel_rfl); (case hg => exact ⟨rfl, rfl, of_decide_eq_true rfl⟩))
    | (apply E_call; (case hf => kernel_rfl); (case hg => exact ⟨rfl, rfl, of_decide_eq_true rfl⟩))
    | exact O_add | exact O_sub | apply O_mul | apply O_div | apply O_mod
    | (apply T_cmp; case hm => exact rfl) | apply T_not | apply T_bop
    | exact hlen
    | assumption
    | exact hB
    | exact of_decide_eq_true rfl
    | exact rfl)
    apply B_in
    refine elimT (law_next_spec (m := m) h1 h2 hnext) fun σ1 j1 e1 c1 x1 g1 l1 => ?_
    apply R_asg
    · repeat' (first
    | exact E_int | exact E_str | exact E_none | exact E_bool
    | exact E_name rfl rfl
    | apply E_bin | apply E_neg | (apply E_sub; case hs => (intro _ _ _ _ h; cases h))
    | apply E_tup | apply E_list | exact L_nil | (apply L_cons; case hs => (intro _ _ h; cases h))
    | (apply E_bi; (case hb => exact rfl); (case hf => kernel_rfl); (case hg => exact ⟨rfl, rfl, of_decide_eq_true rfl⟩))
    | (apply E_call; (case hf => kernel_rfl); (case hg => exact ⟨rfl, rfl, of_decide_eq_true rfl⟩))
    | exact O_add | exact O_sub | apply O_mul | apply O_div | apply O_mod
    | (apply T_cmp; case hm => exact rfl) | apply T_not | apply T_bop
    | exact c1
    | assumption
    | fail
    | exact of_decide_eq_true rfl
    | exact rfl)
    · exact rfl
    · exact .inl rfl
    obtain ⟨v2, σ2, c2, rfl, x2⟩ := fair_spec (m := m + 8) g1 hfair
    apply R_ifF
    · apply T_bop
      apply B_orF
      · repeat' (first
    | exact E_int | exact E_str | exact E_none | exact E_bool
    | exact E_name rfl rfl
    | apply E_bin | apply E_neg | (apply E_sub; case hs => (intro _ _ _ _ h; cases h))
    | apply E_tup | apply E_list | exact L_nil | (apply L_cons; case hs => (intro _ _ h; cases h))
    | (apply E_bi; (case hb => exact rfl); (case hf => kernel_rfl); (case hg => exact ⟨rfl, rfl, of_decide_eq_true rfl⟩))
    | (apply E_call; (case hf => kernel_rfl); (case hg => exact ⟨rfl, rfl, of_decide_eq_true rfl⟩))
    | exact O_add | exact O_sub | apply O_mul | apply O_div | apply O_mod
    | (apply T_cmp; case hm => exact rfl) | apply T_not | apply T_bop
    | fail
    | assumption
    | fail
    | exact of_decide_eq_true rfl
    | exact rfl)
      · apply B_orF
        · apply T_not
          apply T_call
          repeat' (first
    | exact E_int | exact E_str | exact E_none | exact E_bool
    | exact E_name rfl rfl
    | apply E_bin | apply E_neg | (apply E_sub; case hs => (intro _ _ _ _ h; cases h))
    | apply E_tup | apply E_list | exact L_nil | (apply L_cons; case hs => (intro _ _ h; cases h))
    | (apply E_bi; (case hb => exact rfl); (case hf => kernel_rfl); (case hg => exact ⟨rfl, rfl, of_decide_eq_true rfl⟩))
    | (apply E_call; (case hf => kernel_rfl); (case hg => exact ⟨rfl, rfl, of_decide_eq_true rfl⟩))
    | exact O_add | exact O_sub | apply O_mul | apply O_div | apply O_mod
    | (apply T_cmp; case hm => exact rfl) | apply T_not | apply T_bop
    | exact c2
    | assumption
    | fail
    | exact of_decide_eq_true rfl
    | exact rfl)
        · exact B_nilO
    · exact X_s S_nil
    have X := x1.trans x2
    have k1 := X _ _ h1
    have k2 := h2.ext X
    have k3 := X _ _ h3
    have kg := x2 _ _ g1
    apply R_expr
    · apply E_meth
      · exact ⟨of_decide_eq_true rfl, rfl⟩
      · exact E_name rfl rfl
      · exact O_preA k1
      · repeat' (first
    | exact E_int | exact E_str | exact E_none | exact E_bool
    | exact E_name rfl rfl
    | apply E_bin | apply E_neg | (apply E_sub; case hs => (intro _ _ _ _ h; cases h))
    | apply E_tup | apply E_list | exact L_nil | (apply L_cons; case hs => (intro _ _ h; cases h))
    | (apply E_bi; (case hb => exact rfl); (case hf => kernel_rfl); (case hg => exact ⟨rfl, rfl, of_decide_eq_true rfl⟩))
    | (apply E_call; (case hf => kernel_rfl); (case hg => exact ⟨rfl, rfl, of_decide_eq_true rfl⟩))
    | exact O_add | exact O_sub | apply O_mul | apply O_div | apply O_mod
    | (apply T_cmp; case hm => exact rfl) | apply T_not | apply T_bop
    | fail
    | assumption
    | fail
    | exact of_decide_eq_true rfl
    | exact rfl)
      · exact O_app k1 hlr
    have n1 := get_set (c := .list (rvs ++ [.tup [.obj j1, qV r.2]])) k1
    have njr : rn ≠ j1 := fun q => by rw [q, kg] at k1; cases k1
    have ng : (σ2.set rn (.list (rvs ++ [.tup [.obj j1, qV r.2]])))[j1]? = some (.dict (D r.1) e1) := by rw [List.getElem?_set_ne njr]; exact kg
    have n2 := (k2.set (c := .list (rvs ++ [.tup [.obj j1, qV r.2]])) k1).snoc (r := r) ng
    have n3 : (σ2.set rn (.list (rvs ++ [.tup [.obj j1, qV r.2]])))[vn]? = some (.list (vals.map qV)) := by rw [List.getElem?_set_ne hne]; exact k3
    generalize σ2.set rn (.list (rvs ++ [.tup [.obj j1, qV r.2]])) = σ3 at n1 ng n2 n3 ⊢
    unfold pointStep at hpt
    split at hpt
    rotate_left
    · cases hpt
    rename_i v' hrat
    split at hpt
    rotate_left
    · cases hpt
    rename_i pa hpa
    split at hpt
    rotate_left
    · cases hpt
    rename_i pb hpb
    split at hpt
    rotate_left
    · cases hpt
    rename_i below hbelow
    split at hpt
    rotate_left
    · cases hpt
    rename_i pp hpp
    split at hpt
    rotate_left
    · cases hpt
    rename_i qq hqq
    split at hpt
    rotate_left
    · cases hpt
    rename_i hpq
    cases hpt
    subst hpq
    have c3 := law_ratio_spec (m := m + 5) n3 hrat
    apply R_expr
    · apply E_meth
      · exact ⟨of_decide_eq_true rfl, rfl⟩
      · exact E_name rfl rfl
      · exact O_preA n3
      · repeat' (first
    | exact E_int | exact E_str | exact E_none | exact E_bool
    | exact E_name rfl rfl
    | apply E_bin | apply E_neg | (apply E_sub; case hs => (intro _ _ _ _ h; cases h))
    | apply E_tup | apply E_list | exact L_nil | (apply L_cons; case hs => (intro _ _ h; cases h))
    | (apply E_bi; (case hb => exact rfl); (case hf => kernel_rfl); (case hg => exact ⟨rfl, rfl, of_decide_eq_true rfl⟩))
    | (apply E_call; (case hf => kernel_rfl); (case hg => exact ⟨rfl, rfl, of_decide_eq_true rfl⟩))
    | exact O_add | exact O_sub | apply O_mul | apply O_div | apply O_mod
    | (apply T_cmp; case hm => exact rfl) | apply T_not | apply T_bop
    | exact c3
    | assumption
    | fail
    | exact of_decide_eq_true rfl
    | exact rfl)
      · exact O_app n3 (by simp; unfold lim; exact ar163 hll)
    have q1 : (σ3.set vn (.list (vals.map qV ++ [qV v])))[rn]? = _ := (List.getElem?_set_ne (Ne.symm hne)).trans n1
    have q2 := n2.set (c := .list (vals.map qV ++ [qV v])) n3
    have q3 := get_set (c := .list (vals.map qV ++ [qV v])) n3
    have njv : vn ≠ j1 := fun q => by rw [q, ng] at n3; cases n3
    have qg : (σ3.set vn (.list (vals.map qV ++ [qV v])))[j1]? = some (.dict (D r.1) e1) := by rw [List.getElem?_set_ne njv]; exact ng
    generalize σ3.set vn (.list (vals.map qV ++ [qV v])) = σ4 at q1 q2 q3 qg ⊢
    have d1 := rpowL_spec (n := m + 5) (σ := σ4) hpa
    have d2 := rpowL_spec (n := m + 5) (σ := σ4) hpb
    have d3 := rmul_spec (n := m + 6) (σ := σ4) hbelow
    apply R_asg
    · repeat' (first
    | exact E_int | exact E_str | exact E_none | exact E_bool
    | exact E_name rfl rfl
    | apply E_bin | apply E_neg | (apply E_sub; case hs => (intro _ _ _ _ h; cases h))
    | apply E_tup | apply E_list | exact L_nil | (apply L_cons; case hs => (intro _ _ h; cases h))
    | (apply E_bi; (case hb => exact rfl); (case hf => kernel_rfl); (case hg => exact ⟨rfl, rfl, of_decide_eq_true rfl⟩))
    | (apply E_call; (case hf => kernel_rfl); (case hg => exact ⟨rfl, rfl, of_decide_eq_true rfl⟩))
    | exact O_add | exact O_sub | apply O_mul | apply O_div | apply O_mod
    | (apply T_cmp; case hm => exact rfl) | apply T_not | apply T_bop
    | exact d1 | exact d2 | exact d3
    | assumption
    | fail
    | exact of_decide_eq_true rfl
    | exact rfl)
    · exact rfl
    · exact .inl rfl
    have x5 : Ext σ4 (σ4 ++ [Cell.list [qV (x, 1), qV (y, 1)]]) := .app
    have d4 := mvat_spec (m := m + 4) (x5 _ _ qg) (get_last (σ := σ4) (c := Cell.list [qV (x, 1), qV (y, 1)])) hpp
    have i5 : getitem (.obj vn) (.int (-1)) (σ4 ++ [Cell.list [qV (x, 1), qV (y, 1)]]) = some (qV v) := O_lastI (x5 _ _ q3) (by simpa using hll.2)
    have d5 := rmul_spec (n := m + 6) (σ := σ4 ++ [Cell.list [qV (x, 1), qV (y, 1)]]) hqq
    apply R_ifF
    · apply T_cmp
      · exact rfl
      · repeat' (first
    | exact E_int | exact E_str | exact E_none | exact E_bool
    | exact E_name rfl rfl
    | apply E_bin | apply E_neg | (apply E_sub; case hs => (intro _ _ _ _ h; cases h))
    | apply E_tup | apply E_list | exact L_nil | (apply L_cons; case hs => (intro _ _ h; cases h))
    | (apply E_bi; (case hb => exact rfl); (case hf => kernel_rfl); (case hg => exact ⟨rfl, rfl, of_decide_eq_true rfl⟩))
    | (apply E_call; (case hf => kernel_rfl); (case hg => exact ⟨rfl, rfl, of_decide_eq_true rfl⟩))
    | exact O_add | exact O_sub | apply O_mul | apply O_div | apply O_mod
    | (apply T_cmp; case hm => exact rfl) | apply T_not | apply T_bop
    | exact d4
    | assumption
    | fail
    | exact of_decide_eq_true rfl
    | exact rfl)
      · repeat' (first
    | exact E_int | exact E_str | exact E_none | exact E_bool
    | exact E_name rfl rfl
    | apply E_bin | apply E_neg | (apply E_sub; case hs => (intro _ _ _ _ h; cases h))
    | apply E_tup | apply E_list | exact L_nil | (apply L_cons; case hs => (intro _ _ h; cases h))
    | (apply E_bi; (case hb => exact rfl); (case hf => kernel_rfl); (case hg => exact ⟨rfl, rfl, of_decide_eq_true rfl⟩))
    | (apply E_call; (case hf => kernel_rfl); (case hg => exact ⟨rfl, rfl, of_decide_eq_true rfl⟩))
    | exact O_add | exact O_sub | apply O_mul | apply O_div | apply O_mod
    | (apply T_cmp; case hm => exact rfl) | apply T_not | apply T_bop
    | exact d5
    | assumption
    | exact i5
    | exact of_decide_eq_true rfl
    | exact rfl)
      · exact rfl
      · simp
    · exact X_s S_nil
    apply R_nil
    exact ⟨.inl rfl, _, _, _, _, rfl, x5 _ _ q1, q2.ext x5, by rw [x5 _ _ q3]; simp⟩
  · rintro ⟨rows, vals⟩ ρ σ' hstep ⟨oa, ot, ob, rvs, rfl, h1, h2, h3⟩
    obtain ⟨hll, hle⟩ := law_inv0 hstep
    clear hstep
    dsimp only at h2 h3
    have hlr : rvs.length < lim := by rw [h2.1]; unfold lim; exact ar41 hll
    have hlen : biCall .len [.obj rn] σ' = some (.int rows.length, σ') := by
      have := O_lenL h1 hlr
      rwa [h2.1] at this
    have hle' : decide (((rows.length : Nat) : Int) ≤ ((B : Nat) : Int)) = false := decide_eq_false (by exact ar164 hle)
    apply Tst.mk
    · repeat' (first
    | exact E_int | exact E_str | exact E_none | exact E_bool
    | exact E_name rfl rfl
    | apply E_bin | apply E_neg | (apply E_sub; case hs => (intro _ _ _ _ h; cases h))
    | apply E_tup | apply E_list | exact L_nil | (apply L_cons; case hs => (intro _ _ h; cases h))
    | (apply E_bi; (case hb => exact rfl); (case hf => kernel_rfl); (case hg => exact ⟨rfl, rfl, of_decide_eq_true rfl⟩))
    | (apply E_call; (case hf => kernel_rfl); (case hg => exact ⟨rfl, rfl, of_decide_eq_true rfl⟩))
    | exact O_add | exact O_sub | apply O_mul | apply O_div | apply O_mod
    | (apply T_cmp; case hm => exact rfl) | apply T_not | apply T_bop
    | exact hlen
    | assumption
    | exact hB
    | exact of_decide_eq_true rfl
    | exact rfl)
    exact ⟨oa, ot, ob, rvs, rfl, h1, h2, h3⟩
  · rintro ρ' σ' ⟨oa, ot, ob, rvs, rfl, h1, h2, h3⟩
    exact tail oa ot ob rvs σ' h1 h2
end Mine
set_option maxHeartbeats 8000000
namespace Mine
open PySem PyProof.Rows
/-- a row of ints out of the keys of a dict -/
theorem X_keysM {T : Tb} {d : Nat} {cx : Cx} {ρ : Rho} {σ : Store} {elt : Expr} {gg : Comprehension} {scope : Scope} {pos pp : Pos} {x : Str} {it : Expr} {n ep : Nat} {f : PL} {g : Q2 → Int} {fr : List (Str × V)} {K : V → Store → Prop} (hgg : gg = ⟨.Name x pp, it, [], 0⟩)
    (hc : compOk cx scope = true) (hi : iterE T (ev T d) cx it ρ σ = some (.dict n 0 (D f).length ep, σ)) (hf : freeVals ρ scope.names = some fr) (hn : σ[n]? = some (.dict (D f) ep)) (hl : f.length < 9000) (hown : ownNames scope.names = [(Str.ofString ".0", none), (x, none)])
    (hx : ∀ o k, rset [(Str.ofString ".0", none), (x, o)] x (qV k) = some [(Str.ofString ".0", none), (x, some (qV k))])
    (he : ∀ k ∈ keys f, ∀ σ', Ext σ σ' → (ev T d).e ⟨compNm scope, fr⟩ elt [(Str.ofString ".0", none), (x, some (qV k))] σ' = some (.int (g k), σ'))
    (hK : ∀ σ', Ext σ σ' → σ'[σ.length]? = some (.list (((keys f).map g).map V.int)) → K (.obj σ.length) σ') : Xp T (d + 1) cx (.ListComp elt [gg] scope pos) ρ σ K := by
  subst hgg
  have hfold := fold_snoc (g := g) (ks := keys f) (acc := []) (by simp; exact Nat.lt_add_left _ hl)
  have key := fun (hs : _) => comp_PL (T := T) (d := d) (cx := ⟨compNm scope, fr⟩) (inner := compGs T (ev T d) ⟨compNm scope, fr⟩ (emitList (ev T d) ⟨compNm scope, fr⟩ σ.length elt) []) (x := x) (pp := pp) (ifs := []) (n := n) (ep := ep) (step := snocS g) (a0 := []) (ρ := ownNames scope.names)
    (fun acc ρ' σ' => ∃ o, ρ' = [(Str.ofString ".0", Option.none), (x, o)] ∧ Ext σ σ' ∧ σ'[σ.length]? = some (.list (acc.map V.int))) (σ := σ ++ [.list []]) (by exact Nat.lt_add_left _ hl) hfold ⟨none, hown, .app, get_last⟩ (fun acc ρ σ' hr => by obtain ⟨o, rfl, hx, hj⟩ := hr; exact hx n _ hn) hs
  apply X_lcomp
  · exact .inl rfl
  · exact ⟨hc, rfl⟩
  · exact hi
  · exact hf
  · refine key ?_
    rintro acc k acc' ρ σ' hk hs ⟨o, rfl, hX, hj⟩
    unfold snocS at hs
    split at hs
    rotate_left
    · cases hs
    rename_i hl2
    cases hs
    refine ⟨_, true, σ', hx o k, I_nil, ?_⟩
    rw [if_pos rfl]
    refine ⟨_, σ'.set σ.length (.list (acc.map V.int ++ [.int (g k)])), ?_, some (qV k), rfl, hX.set (Nat.le_refl _), by rw [get_set hj]; simp⟩
    apply G_nil
    exact M_list (he k hk σ' hX) hj (by simpa using hl2)
  · rintro ρ' σ' ⟨o, rfl, hX, hj⟩
    exact hK σ' hX (by simpa using hj)
noncomputable def coefs (f : PL) : List Int := (keys f).map fun k => ((plGet f k).getD (0, 1)).1
noncomputable def endOK (al be S : Int) (rows : List (PL × Q2)) : Bool := if 1 < al ∨ 1 < be then true else (match rows.getLast? with
  | some r => decide (r.1.length < 9000) && decide (rows.length < 9000) && ((keys r.1).all fun k => (plGet r.1 k).isSome) && (sumL 0 (coefs r.1) == S)
  | none => false)
theorem law_end {m N : Nat} {ns : List Int} {al be f s x y S : Int} {pn rn vn : Nat} {oa ot ob : Option V} {rvs : List V} {σ : Store} {rows : List (PL × Q2)} (hS : at? [.int 34, .int 11, .int 59, .int 83] ((N : Int) - 2) = some (.int S))
    (hr : σ[rn]? = some (.list rvs)) (ho : RowOK σ rvs rows) (h : endOK al be S rows = true) :
    Run ⟨fun g => (P0.find g).isSome, P0.gl, callF P0 (m + 9)⟩ 39 ⟨(recAt 43).scope.names, []⟩ ((recAt 43).body.drop 9) [(Str.ofString "script", some (.ilist ns)), (Str.ofString "pool", some (.obj pn)), (Str.ofString "order", some (.int (N : Nat))), (Str.ofString "alpha", some (.int al)), (Str.ofString "beta", some (.int be)), (Str.ofString "first", some (.int f)), (Str.ofString "second", some (.int s)), (Str.ofString "x", some (.int x)), (Str.ofString "y", some (.int y)), (Str.ofString "row", some (.obj rn)), (Str.ofString "values", some (.obj vn)), (Str.ofString "at", oa), (Str.ofString "told", ot), (Str.ofString "below", ob), (Str.ofString "last", Option.none)] σ LawQ := by
  unfold endOK at h
  by_cases h1 : 1 < al
  · have h1' := decide_eq_true h1
    apply R_ifTr
    · apply T_bop
      apply B_orT
      repeat' (first
    | exact E_int | exact E_str | exact E_none | exact E_bool
    | exact E_name rfl rfl
    | apply E_bin | apply E_neg | (apply E_sub; case hs => (intro _ _ _ _ h; cases h))
    | apply E_tup | apply E_list | exact L_nil | (apply L_cons; case hs => (intro _ _ h; cases h))
    | (apply E_bi; (case hb => exact rfl); (case hf => kernel_rfl); (case hg => exact ⟨rfl, rfl, of_decide_eq_true rfl⟩))
    | (apply E_call; (case hf => kernel_rfl); (case hg => exact ⟨rfl, rfl, of_decide_eq_true rfl⟩))
    | exact O_add | exact O_sub | apply O_mul | apply O_div | apply O_mod
    | (apply T_cmp; case hm => exact rfl) | apply T_not | apply T_bop
    | fail
    | assumption
    | fail
    | exact of_decide_eq_true rfl
    | exact rfl)
    · apply X_s
      apply S_ret
      repeat' (first
    | exact E_int | exact E_str | exact E_none | exact E_bool
    | exact E_name rfl rfl
    | apply E_bin | apply E_neg | (apply E_sub; case hs => (intro _ _ _ _ h; cases h))
    | apply E_tup | apply E_list | exact L_nil | (apply L_cons; case hs => (intro _ _ h; cases h))
    | (apply E_bi; (case hb => exact rfl); (case hf => kernel_rfl); (case hg => exact ⟨rfl, rfl, of_decide_eq_true rfl⟩))
    | (apply E_call; (case hf => kernel_rfl); (case hg => exact ⟨rfl, rfl, of_decide_eq_true rfl⟩))
    | exact O_add | exact O_sub | apply O_mul | apply O_div | apply O_mod
    | (apply T_cmp; case hm => exact rfl) | apply T_not | apply T_bop
    | fail
    | assumption
    | fail
    | exact of_decide_eq_true rfl
    | exact rfl)
    · exact ⟨_, .inl rfl, rfl⟩
  have h1' := decide_eq_false h1
  by_cases h2 : 1 < be
  · have h2' := decide_eq_true h2
    apply R_ifTr
    · apply T_bop
      apply B_orF
      · repeat' (first
    | exact E_int | exact E_str | exact E_none | exact E_bool
    | exact E_name rfl rfl
    | apply E_bin | apply E_neg | (apply E_sub; case hs => (intro _ _ _ _ h; cases h))
    | apply E_tup | apply E_list | exact L_nil | (apply L_cons; case hs => (intro _ _ h; cases h))
    | (apply E_bi; (case hb => exact rfl); (case hf => kernel_rfl); (case hg => exact ⟨rfl, rfl, of_decide_eq_true rfl⟩))
    | (apply E_call; (case hf => kernel_rfl); (case hg => exact ⟨rfl, rfl, of_decide_eq_true rfl⟩))
    | exact O_add | exact O_sub | apply O_mul | apply O_div | apply O_mod
    | (apply T_cmp; case hm => exact rfl) | apply T_not | apply T_bop
    | fail
    | assumption
    | fail
    | exact of_decide_eq_true rfl
    | exact rfl)
      · apply B_orT
        repeat' (first
    | exact E_int | exact E_str | exact E_none | exact E_bool
    | exact E_name rfl rfl
    | apply E_bin | apply E_neg | (apply E_sub; case hs => (intro _ _ _ _ h; cases h))
    | apply E_tup | apply E_list | exact L_nil | (apply L_cons; case hs => (intro _ _ h; cases h))
    | (apply E_bi; (case hb => exact rfl); (case hf => kernel_rfl); (case hg => exact ⟨rfl, rfl, of_decide_eq_true rfl⟩))
    | (apply E_call; (case hf => kernel_rfl); (case hg => exact ⟨rfl, rfl, of_decide_eq_true rfl⟩))
    | exact O_add | exact O_sub | apply O_mul | apply O_div | apply O_mod
    | (apply T_cmp; case hm => exact rfl) | apply T_not | apply T_bop
    | fail
    | assumption
    | fail
    | exact of_decide_eq_true rfl
    | exact rfl)
    · apply X_s
      apply S_ret
      repeat' (first
    | exact E_int | exact E_str | exact E_none | exact E_bool
    | exact E_name rfl rfl
    | apply E_bin | apply E_neg | (apply E_sub; case hs => (intro _ _ _ _ h; cases h))
    | apply E_tup | apply E_list | exact L_nil | (apply L_cons; case hs => (intro _ _ h; cases h))
    | (apply E_bi; (case hb => exact rfl); (case hf => kernel_rfl); (case hg => exact ⟨rfl, rfl, of_decide_eq_true rfl⟩))
    | (apply E_call; (case hf => kernel_rfl); (case hg => exact ⟨rfl, rfl, of_decide_eq_true rfl⟩))
    | exact O_add | exact O_sub | apply O_mul | apply O_div | apply O_mod
    | (apply T_cmp; case hm => exact rfl) | apply T_not | apply T_bop
    | fail
    | assumption
    | fail
    | exact of_decide_eq_true rfl
    | exact rfl)
    · exact ⟨_, .inl rfl, rfl⟩
  have h2' := decide_eq_false h2
  rw [if_neg (by exact not_or_intro h1 h2)] at h
  split at h
  rotate_left
  · first | exact no_some h | cases h
  rename_i r hlast
  simp only [Bool.and_eq_true, decide_eq_true_eq, List.all_eq_true, beq_iff_eq] at h
  obtain ⟨⟨⟨hl, hl2⟩, hall⟩, hsum⟩ := h
  rw [List.getLast?_eq_getElem?] at hlast
  have hpos : 0 < rows.length := by
    have := (List.getElem?_eq_some_iff.mp hlast).1
    exact Nat.zero_lt_of_lt this
  obtain ⟨j, ep, g1, g2⟩ := ho.2 _ _ hlast
  have i1 : getitem (.obj rn) (.int (-1)) σ = some (.tup [.obj j, qV r.2]) := by
    refine O_idx hr ?_
    unfold at?
    rw [if_neg (by decide), if_pos ⟨by rw [ho.1]; exact ar142 hpos, by rw [ho.1]; unfold lim; exact Nat.lt_add_left _ hl2⟩, ho.1]
    have : ((-1 : Int) + (rows.length : Nat)).toNat = rows.length - 1 := by exact ar143
    rw [this]
    exact g1
  apply R_ifF
  · apply T_bop
    apply B_orF
    · repeat' (first
    | exact E_int | exact E_str | exact E_none | exact E_bool
    | exact E_name rfl rfl
    | apply E_bin | apply E_neg | (apply E_sub; case hs => (intro _ _ _ _ h; cases h))
    | apply E_tup | apply E_list | exact L_nil | (apply L_cons; case hs => (intro _ _ h; cases h))
    | (apply E_bi; (case hb => exact rfl); (case hf => kernel_rfl); (case hg => exact ⟨rfl, rfl, of_decide_eq_true rfl⟩))
    | (apply E_call; (case hf => kernel_rfl); (case hg => exact ⟨rfl, rfl, of_decide_eq_true rfl⟩))
    | exact O_add | exact O_sub | apply O_mul | apply O_div | apply O_mod
    | (apply T_cmp; case hm => exact rfl) | apply T_not | apply T_bop
    | fail
    | assumption
    | fail
    | exact of_decide_eq_true rfl
    | exact rfl)
    · apply B_orF
      · repeat' (first
    | exact E_int | exact E_str | exact E_none | exact E_bool
    | exact E_name rfl rfl
    | apply E_bin | apply E_neg | (apply E_sub; case hs => (intro _ _ _ _ h; cases h))
    | apply E_tup | apply E_list | exact L_nil | (apply L_cons; case hs => (intro _ _ h; cases h))
    | (apply E_bi; (case hb => exact rfl); (case hf => kernel_rfl); (case hg => exact ⟨rfl, rfl, of_decide_eq_true rfl⟩))
    | (apply E_call; (case hf => kernel_rfl); (case hg => exact ⟨rfl, rfl, of_decide_eq_true rfl⟩))
    | exact O_add | exact O_sub | apply O_mul | apply O_div | apply O_mod
    | (apply T_cmp; case hm => exact rfl) | apply T_not | apply T_bop
    | fail
    | assumption
    | fail
    | exact of_decide_eq_true rfl
    | exact rfl)
      · exact B_nilO
  · exact X_s S_nil
  apply R_asg
  · repeat' (first
    | exact E_int | exact E_str | exact E_none | exact E_bool
    | exact E_name rfl rfl
    | apply E_bin | apply E_neg | (apply E_sub; case hs => (intro _ _ _ _ h; cases h))
    | apply E_tup | apply E_list | exact L_nil | (apply L_cons; case hs => (intro _ _ h; cases h))
    | (apply E_bi; (case hb => exact rfl); (case hf => kernel_rfl); (case hg => exact ⟨rfl, rfl, of_decide_eq_true rfl⟩))
    | (apply E_call; (case hf => kernel_rfl); (case hg => exact ⟨rfl, rfl, of_decide_eq_true rfl⟩))
    | exact O_add | exact O_sub | apply O_mul | apply O_div | apply O_mod
    | (apply T_cmp; case hm => exact rfl) | apply T_not | apply T_bop
    | fail
    | assumption
    | exact i1
    | exact of_decide_eq_true rfl
    | exact rfl)
  · exact rfl
  · exact .inl rfl
  apply R_retE
  apply X_cmp
  · exact rfl
  apply X_bi1
  · intro _ _ h; cases h
  · exact ⟨rfl, rfl, of_decide_eq_true rfl⟩
  · kernel_rfl
  · exact rfl
  apply X_keysM (g := fun k => ((plGet r.1 k).getD (0, 1)).1) rfl
  · decide +kernel
  · apply R_name
    · exact E_name rfl rfl
    · exact iterV_obj g2
  · exact rfl
  · exact g2
  · exact hl
  · exact rfl
  · intro o k; exact rfl
  · intro k hk σ' hx
    obtain ⟨c, hc⟩ := Option.isSome_iff_exists.mp (hall k hk)
    have hg := O_get (hx _ _ g2) hc
    rw [hc]
    repeat' (first
    | exact E_int | exact E_str | exact E_none | exact E_bool
    | exact E_name rfl rfl
    | apply E_bin | apply E_neg | (apply E_sub; case hs => (intro _ _ _ _ h; cases h))
    | apply E_tup | apply E_list | exact L_nil | (apply L_cons; case hs => (intro _ _ h; cases h))
    | (apply E_bi; (case hb => exact rfl); (case hf => kernel_rfl); (case hg => exact ⟨rfl, rfl, of_decide_eq_true rfl⟩))
    | (apply E_call; (case hf => kernel_rfl); (case hg => exact ⟨rfl, rfl, of_decide_eq_true rfl⟩))
    | exact O_add | exact O_sub | apply O_mul | apply O_div | apply O_mod
    | (apply T_cmp; case hm => exact rfl) | apply T_not | apply T_bop
    | fail
    | assumption
    | exact hg
    | exact of_decide_eq_true rfl
    | exact rfl)
  intro σ3 hX3 hj3
  refine ⟨_, _, O_sum hj3 intsOf_map, ?_⟩
  apply X_of
  · repeat' (first
    | exact E_int | exact E_str | exact E_none | exact E_bool
    | exact E_name rfl rfl
    | apply E_bin | apply E_neg | (apply E_sub; case hs => (intro _ _ _ _ h; cases h))
    | apply E_tup | apply E_list | exact L_nil | (apply L_cons; case hs => (intro _ _ h; cases h))
    | (apply E_bi; (case hb => exact rfl); (case hf => kernel_rfl); (case hg => exact ⟨rfl, rfl, of_decide_eq_true rfl⟩))
    | (apply E_call; (case hf => kernel_rfl); (case hg => exact ⟨rfl, rfl, of_decide_eq_true rfl⟩))
    | exact O_add | exact O_sub | apply O_mul | apply O_div | apply O_mod
    | (apply T_cmp; case hm => exact rfl) | apply T_not | apply T_bop
    | fail
    | assumption
    | exact hS
    | exact of_decide_eq_true rfl
    | exact rfl)
  refine ⟨rfl, _, .inl rfl, ?_⟩
  show V.bool (sumL 0 (coefs r.1) == S) = _
  rw [hsum]
  simp
end Mine
set_option maxHeartbeats 8000000
namespace Mine
open PySem PyProof.Rows
noncomputable def lawOK (N : Nat) (al be f s x y : Int) : Bool := match iterF (lawStep N al be x y (bnd N)) 50 ((List.range N).map (initRow f s), (List.range N).map (initVal f s x y)) with
  | some st => endOK al be (sumOK N) st.1
  | none => false
theorem law_of {m N : Nat} {ns : List Int} {al be f s x y : Int} (hN2 : N = 2 ∨ N = 3 ∨ N = 4 ∨ N = 5) (ho : ((N : Nat) : Int) = 2 + drawL (ns.take 9) 0 4) (hal : al = if 3 < ((N : Nat) : Int) then 1 + drawL (ns.take 9) 1 2 else 1) (hbe : be = 1 + drawL (ns.take 9) 2 2) (hf : f = drawL (ns.take 9) 3 ((N : Nat) : Int))
    (hs : s = (f + 1 + drawL (ns.take 9) 4 (((N : Nat) : Int) - 1)).fmod ((N : Nat) : Int)) (hx : x = 1 + drawL (ns.take 9) 5 4) (hy : y = 1 + drawL (ns.take 9) 6 4) (h : lawOK N al be f s x y = true) :
    ∃ v σ', callF P0 (m + 10) (Str.ofString "law") [.ilist ns] [] = some (v, σ') ∧ v = .bool true := by
  unfold lawOK at h
  split at h
  rotate_left
  · first | exact no_some h | cases h
  rename_i st hrun
  have hB : at? [.int 5, .int 6, .int 8, .int 10] (((N : Nat) : Int) - 2) = some (.int ((bnd N : Nat) : Int)) := by
    rcases hN2 with rfl | rfl | rfl | rfl <;> rfl
  have hS : at? [.int 34, .int 11, .int 59, .int 83] (((N : Nat) : Int) - 2) = some (.int (sumOK N)) := by
    rcases hN2 with rfl | rfl | rfl | rfl <;> rfl
  exact law_head ho hal hbe hf hs hx hy fun pn rn vn σ hne hr hv => init_loop (by exact ar151 hN2) hne hr hv fun oa rvs σ' a b c => law_loop hne hB a b c hrun fun oa ot ob rvs σ'' a b => law_end hS a b h
/-- the law, from the finite check -/
theorem law_from (H : ∀ N a b f d x y : Nat, (N = 2 ∨ N = 3 ∨ N = 4 ∨ N = 5) → a < 2 → (N ≤ 3 → a = 0) → b < 2 → f < N → d < N - 1 → x < 4 → y < 4 → lawOK N (1 + a) (1 + b) f (((f : Int) + 1 + d).fmod N) (1 + x) (1 + y) = true) (ns : List Int) :
    ∃ σ', callF P0 11 (Str.ofString "law") [.ilist ns] [] = some (.bool true, σ') := by
  have nat : ∀ {i : Nat} {many : Int}, 0 < many → ∃ n : Nat, drawL (ns.take 9) i many = (n : Int) ∧ (n : Int) < many := fun {i many} h => by
    obtain ⟨a, b⟩ := drawL_range (cs := ns.take 9) (i := i) h
    exact ⟨(drawL (ns.take 9) i many).toNat, by exact (Int.toNat_of_nonneg a).symm, by exact ar148 h b⟩
  obtain ⟨n0, h0, l0⟩ := nat (i := 0) (many := 4) (by decide)
  obtain ⟨a, h1, l1⟩ := nat (i := 1) (many := 2) (by decide)
  obtain ⟨b, h2, l2⟩ := nat (i := 2) (many := 2) (by decide)
  obtain ⟨f, h3, l3⟩ := nat (i := 3) (many := ((2 + n0 : Nat) : Int)) (by exact ar149)
  obtain ⟨d, h4, l4⟩ := nat (i := 4) (many := ((2 + n0 : Nat) : Int) - 1) (by exact ar150)
  obtain ⟨x, h5, l5⟩ := nat (i := 5) (many := 4) (by decide)
  obtain ⟨y, h6, l6⟩ := nat (i := 6) (many := 4) (by decide)
  have hN : 2 + n0 = 2 ∨ 2 + n0 = 3 ∨ 2 + n0 = 4 ∨ 2 + n0 = 5 := by exact ar152 l0
  have key : ∀ a' : Nat, a' < 2 → (2 + n0 ≤ 3 → a' = 0) → ((1 + a' : Int) = if 3 < ((2 + n0 : Nat) : Int) then 1 + drawL (ns.take 9) 1 2 else 1) → ∃ σ', callF P0 11 (Str.ofString "law") [.ilist ns] [] = some (.bool true, σ') := by
    intro a' ha ha0 hal
    obtain ⟨v, σ', c, rfl⟩ := law_of (m := 1) (ns := ns) (N := 2 + n0) (al := 1 + a') (be := 1 + b) (f := f) (s := ((f : Int) + 1 + d).fmod ((2 + n0 : Nat) : Int)) (x := 1 + x) (y := 1 + y) hN (by rw [h0]; exact ar153) hal (by rw [h2]) h3.symm (by rw [h4]) (by rw [h5]) (by rw [h6])
      (H (2 + n0) a' b f d x y hN ha ha0 (by exact ar42 l2) (by exact ar154 l3) (by exact ar155 l4) (by exact ar43 l5) (by exact ar43 l6))
    exact ⟨σ', c⟩
  by_cases h3' : 3 < ((2 + n0 : Nat) : Int)
  · exact key a (by exact ar42 l1) (by exact ar156 h3') (by rw [if_pos h3', h1])
  · exact key 0 (by exact Nat.zero_lt_two) (fun _ => rfl) (by rw [if_neg h3']; rfl)
end Mine
namespace Mine
open PySem PyProof.Rows
theorem sm_one : sm 1 := by decide
theorem gcd_one (t : Int) : gcdF 100 (absI t, absI 1) = some 1 := by
  have h1 : absI 1 = 1 := rfl
  have h0 : (absI t).fmod 1 = 0 := by simp
  have step1 : ∀ (k : Nat), iterF (fun (s : Q2) => if s.2 = 0 then some none else some (some (s.2, s.1.fmod s.2))) (k + 2) (absI t, 1) = some (1, 0) := fun k => by
    simp only [iterF, h0]
    simp
  unfold gcdF
  rw [h1, step1 98]
theorem ratL_one {t : Int} (h : sm t) : ratL t 1 = some (t, 1) := by
  unfold ratL
  rw [if_pos ⟨by decide, h, sm_one⟩, gcd_one]
  dsimp only
  rw [if_pos ⟨by decide, sm_one⟩]
  simp
theorem radd_one {a b : Int} (ha : sm a) (hb : sm b) (h : sm (a + b)) : raddL (a, 1) (b, 1) = some (a + b, 1) := by
  unfold raddL
  rw [if_pos ⟨ha, sm_one, hb, sm_one⟩]
  simpa using ratL_one h
theorem rmul_one {a b : Int} (ha : sm a) (hb : sm b) (h : sm (a * b)) : rmulL (a, 1) (b, 1) = some (a * b, 1) := by
  unfold rmulL
  rw [if_pos ⟨ha, sm_one, hb, sm_one⟩]
  simpa using ratL_one h
end Mine
namespace Mine
open PySem PyProof.Rows
/-- polynomials with whole coefficients; a pair of powers (i, j) is the number 32 * i + j -/
inductive FP where
  | n
  | c (k v : Nat) (r : FP)
noncomputable def kE (k : Nat) : Q2 := (((k / 32 : Nat) : Int), ((k % 32 : Nat) : Int))
noncomputable def cE (c : Nat) : Q2 := ((c : Int), 1)
noncomputable def nE (c : Nat) : Q2 := (0 - (c : Int), 1)
noncomputable def E : FP → PL
  | .n => []
  | .c k v r => (kE k, cE v) :: E r
noncomputable def ks : FP → List Nat
  | .n => []
  | .c k _ r => k :: ks r
noncomputable abbrev big59 : Nat := 576460752303423488
noncomputable def Gd (K : Nat → Prop) : FP → Prop
  | .n => True
  | .c k v r => (k ∉ ks r ∧ K k ∧ 0 < v ∧ v ≤ big59) ∧ Gd K r
theorem kE_inj {a b : Nat} : kE a = kE b ↔ a = b := by
  constructor
  · intro h
    have h1 := congrArg Prod.fst h
    have h2 := congrArg Prod.snd h
    simp only [kE] at h1 h2
    exact ar174 h1 h2
  · rintro rfl; rfl
theorem keys_E : ∀ {p : FP}, keys (E p) = (ks p).map kE
  | .n => rfl
  | .c k v r => by
    show kE k :: keys (E r) = kE k :: (ks r).map kE
    rw [keys_E]
theorem E_len : ∀ {p : FP}, (E p).length = (ks p).length
  | .n => rfl
  | .c k v r => by
    show (E r).length + 1 = (ks r).length + 1
    rw [E_len]
theorem sm_nat {c : Nat} (h : c ≤ big59) : sm (c : Int) := by
  have h : c ≤ 576460752303423488 := h
  show (c : Int).natAbs < big
  unfold big; exact ar171 h
theorem Gd.nodup {K : Nat → Prop} : ∀ {p : FP}, Gd K p → (ks p).Nodup
  | .n, _ => List.nodup_nil
  | .c _ _ _, h => List.nodup_cons.mpr ⟨h.1.1, Gd.nodup h.2⟩
theorem Gd.all {K : Nat → Prop} : ∀ {p : FP}, Gd K p → ∀ k ∈ ks p, K k
  | .n, _, _, h => by cases h
  | .c _ _ _, h, k, hk => by
    rcases List.mem_cons.mp hk with rfl | hk
    · exact h.1.2.1
    · exact Gd.all h.2 k hk
theorem Gd.mono {K K' : Nat → Prop} (hK : ∀ k, K k → K' k) : ∀ {p : FP}, Gd K p → Gd K' p
  | .n, _ => trivial
  | .c _ _ _, h => ⟨⟨h.1.1, hK _ h.1.2.1, h.1.2.2⟩, Gd.mono hK h.2⟩
theorem nodup_map_inj {α β : Type} {f : α → β} (hf : ∀ a b, f a = f b → a = b) : ∀ {l : List α}, l.Nodup → (l.map f).Nodup
  | [], _ => List.nodup_nil
  | x :: l, h => by
    obtain ⟨h1, h2⟩ := List.nodup_cons.mp h
    refine List.nodup_cons.mpr ⟨fun q => ?_, nodup_map_inj hf h2⟩
    obtain ⟨y, hy, e⟩ := List.mem_map.mp q
    exact h1 (hf _ _ e ▸ hy)
theorem Gd.keys_nodup {K : Nat → Prop} {p : FP} (h : Gd K p) : (keys (E p)).Nodup := by
  rw [keys_E]
  exact nodup_map_inj (fun a b q => kE_inj.mp q) h.nodup
theorem nodup_len : ∀ (n : Nat) (l : List Nat), l.Nodup → (∀ x ∈ l, x < n) → l.length ≤ n
  | 0, [], _, _ => Nat.le_refl _
  | 0, x :: l, _, h => absurd (h x List.mem_cons_self) (Nat.not_lt_zero _)
  | n + 1, l, hd, h => by
    have h1 := nodup_len n (l.erase n) (hd.erase n) (fun x hx => by
      have a := h x (List.mem_of_mem_erase hx)
      have b : x ≠ n := fun q => by
        subst q
        exact (List.Nodup.not_mem_erase hd) hx
      exact ar175 a b)
    rw [List.length_erase] at h1
    split at h1 <;> (first | exact Nat.le_add_of_sub_le h1 | exact Nat.le_succ_of_le h1)
theorem Gd.len {K : Nat → Prop} {p : FP} {n : Nat} (h : Gd K p) (hK : ∀ k, K k → k < n) : (E p).length ≤ n := by
  rw [E_len]
  exact nodup_len n _ h.nodup fun x hx => hK _ (h.all x hx)
/-- the pairs of powers up to 12, and their sums -/
noncomputable def Kg (k : Nat) : Prop := k % 32 ≤ 12 ∧ k ≤ 396
noncomputable def Kw (k : Nat) : Prop := k % 32 ≤ 24 ∧ k ≤ 792
theorem Kg.lt {k : Nat} (h : Kg k) : k < 397 := by have := h.2; exact Nat.lt_succ_of_le this
theorem Kw.lt {k : Nat} (h : Kw k) : k < 793 := by have := h.2; exact Nat.lt_succ_of_le this
theorem Kg.w {k : Nat} (h : Kg k) : Kw k := by have := h.1; have := h.2; exact ⟨by omega, by exact ar177 this⟩
theorem kadd_E {a b : Nat} (ha : Kg a) (hb : Kg b) : pprod (kE a) (kE b) = kE (a + b) := by
  have := ha.1; have := hb.1
  simp only [pprod, kE, Prod.mk.injEq]
  omega
theorem Kg.add {a b : Nat} (ha : Kg a) (hb : Kg b) : Kw (a + b) := by
  have := ha.1; have := hb.1; have := ha.2; have := hb.2
  exact ⟨by omega, by omega⟩
/-- reads -/
theorem get_mem : ∀ {P : PL}, (keys P).Nodup → ∀ e ∈ P, plGet P e.1 = some e.2
  | [], _, e, h => by cases h
  | (k, q) :: r, hn, e, h => by
    obtain ⟨h1, h2⟩ := List.nodup_cons.mp (show (k :: keys r).Nodup from hn)
    show (if k = e.1 then some q else plGet r e.1) = _
    rcases List.mem_cons.mp h with rfl | h
    · rw [if_pos rfl]
    · rw [if_neg (fun (q : k = e.1) => h1 (q ▸ List.mem_map_of_mem h))]
      exact get_mem h2 e h
theorem get_none : ∀ {P : PL} {k : Q2}, k ∉ keys P → plGet P k = none
  | [], _, _ => rfl
  | (k', q) :: r, k, h => by
    have h' : k ∉ k' :: keys r := h
    show (if k' = k then some q else plGet r k) = _
    rw [if_neg (fun (e : k' = k) => h' (e ▸ List.mem_cons_self))]
    exact get_none fun q => h' (List.mem_cons_of_mem _ q)
theorem fold_part {α : Type} {P : PL} {F : α → Q2 → Q2 → Option α} : ∀ {r : PL} {a : α}, (∀ e ∈ r, plGet P e.1 = some e.2) →
    foldF (fun acc k => match plGet P k with
      | some c => F acc k c
      | none => none) a (keys r) = foldF (fun acc e => F acc e.1 e.2) a r
  | [], _, _ => rfl
  | e :: r, a, h => by
    rw [show keys (e :: r) = e.1 :: keys r from rfl]
    unfold foldF
    rw [h e List.mem_cons_self]
    dsimp only
    cases F a e.1 e.2 with
    | none => rfl
    | some a' => exact fold_part fun x hx => h x (List.mem_cons_of_mem _ hx)
theorem fold_keysE {α : Type} {P : PL} {F : α → Q2 → Q2 → Option α} {a : α} (h : (keys P).Nodup) :
    foldF (fun acc k => match plGet P k with
      | some c => F acc k c
      | none => none) a (keys P) = foldF (fun acc e => F acc e.1 e.2) a P := fold_part (get_mem h)
end Mine
namespace Mine
open PySem PyProof.Rows
theorem b_inv {α : Type} {b : Bool} {X : Option α} {r : α} (h : (Bool.rec none X b : Option α) = some r) : b = true ∧ X = some r := by
  cases b with
  | false => cases h
  | true => exact ⟨rfl, h⟩
theorem o_inv {α β : Type} {o : Option β} {f : β → Option α} {r : α} (h : (Option.rec none f o : Option α) = some r) : ∃ a, o = some a ∧ f a = some r := by
  cases o with
  | none => cases h
  | some a => exact ⟨a, rfl, h⟩
/-- add a term, take a term off -/
noncomputable def fadd (x v : Nat) (p : FP) : Option FP := FP.rec (Bool.rec none (some (.c x v .n)) (Nat.ble v big59))
  (fun k c r ih => Bool.rec (Option.rec none (fun r' => some (.c k c r')) ih) (Bool.rec none (some (.c k (Nat.add c v) r)) (Nat.ble (Nat.add c v) big59)) (Nat.beq k x)) p
noncomputable def fsub (x v : Nat) (p : FP) : Option FP := FP.rec none
  (fun k c r ih => Bool.rec (Option.rec none (fun r' => some (.c k c r')) ih) (Bool.rec (Bool.rec none (some (.c k (Nat.sub c v) r)) (Nat.ble v c)) (some r) (Nat.beq c v)) (Nat.beq k x)) p
theorem fadd_n {x v : Nat} : fadd x v .n = Bool.rec none (some (.c x v .n)) (Nat.ble v big59) := rfl
theorem fadd_c {x v k c : Nat} {r : FP} : fadd x v (.c k c r) = Bool.rec (Option.rec none (fun r' => some (.c k c r')) (fadd x v r)) (Bool.rec none (some (.c k (c + v) r)) (Nat.ble (c + v) big59)) (Nat.beq k x) := rfl
theorem fsub_n {x v : Nat} : fsub x v .n = none := rfl
theorem fsub_c {x v k c : Nat} {r : FP} : fsub x v (.c k c r) = Bool.rec (Option.rec none (fun r' => some (.c k c r')) (fsub x v r)) (Bool.rec (Bool.rec none (some (.c k (c - v) r)) (Nat.ble v c)) (some r) (Nat.beq c v)) (Nat.beq k x) := rfl
theorem fadd_mem {x v : Nat} : ∀ {p r : FP}, fadd x v p = some r → ∀ k ∈ ks r, k ∈ ks p ∨ k = x
  | .n, r, h, k, hk => by
    rw [fadd_n] at h
    obtain ⟨_, h⟩ := b_inv h
    cases h
    exact .inr (by simpa [ks] using hk)
  | .c k' c p, r, h, k, hk => by
    rw [fadd_c] at h
    cases e : Nat.beq k' x with
    | false =>
      rw [e] at h
      obtain ⟨r', h1, h2⟩ := o_inv h
      cases h2
      rcases List.mem_cons.mp hk with rfl | hk
      · exact .inl List.mem_cons_self
      · rcases fadd_mem h1 k hk with q | q
        · exact .inl (List.mem_cons_of_mem _ q)
        · exact .inr q
    | true =>
      rw [e] at h
      obtain ⟨_, h⟩ := b_inv h
      cases h
      exact .inl hk
theorem fadd_Gd {K : Nat → Prop} {x v : Nat} (hx : K x) (hv : 0 < v) : ∀ {p r : FP}, Gd K p → fadd x v p = some r → Gd K r
  | .n, r, _, h => by
    rw [fadd_n] at h
    obtain ⟨hb, h⟩ := b_inv h
    cases h
    exact ⟨⟨by simp [ks], hx, hv, Nat.le_of_ble_eq_true hb⟩, trivial⟩
  | .c k' c p, r, g, h => by
    rw [fadd_c] at h
    obtain ⟨⟨g1, g2, g3, g4⟩, g5⟩ := g
    cases e : Nat.beq k' x with
    | false =>
      rw [e] at h
      obtain ⟨r', h1, h2⟩ := o_inv h
      cases h2
      refine ⟨⟨fun q => ?_, g2, g3, g4⟩, fadd_Gd hx hv g5 h1⟩
      rcases fadd_mem h1 k' q with q | q
      · exact g1 q
      · rw [q] at e
        rw [show Nat.beq x x = true from Nat.beq_refl x] at e
        cases e
    | true =>
      rw [e] at h
      obtain ⟨hb, h⟩ := b_inv h
      cases h
      exact ⟨⟨g1, g2, by exact ar57 hv, Nat.le_of_ble_eq_true hb⟩, g5⟩
theorem map_id_of {P : PL} {k q : Q2} (h : k ∉ keys P) : (P.map fun e => if e.1 = k then (e.1, q) else e) = P := by
  induction P with
  | nil => rfl
  | cons e P ih =>
    have h' : k ∉ e.1 :: keys P := h
    rw [List.map_cons, if_neg (fun (q : e.1 = k) => h' (q ▸ List.mem_cons_self)), ih (fun q => h' (List.mem_cons_of_mem _ q))]
theorem mem_E {p : FP} {k : Nat} : kE k ∈ keys (E p) ↔ k ∈ ks p := by
  rw [keys_E]
  constructor
  · intro h
    obtain ⟨y, hy, e⟩ := List.mem_map.mp h
    exact kE_inj.mp e ▸ hy
  · exact fun h => List.mem_map_of_mem h
theorem fadd_sem {K : Nat → Prop} {x v : Nat} : ∀ {p r : FP}, Gd K p → fadd x v p = some r →
    (plGet (E p) (kE x) = none ∧ v ≤ big59 ∧ E r = E p ++ [(kE x, cE v)]) ∨ (∃ c, plGet (E p) (kE x) = some (cE c) ∧ c + v ≤ big59 ∧ E r = (E p).map fun e => if e.1 = kE x then (e.1, cE (c + v)) else e)
  | .n, r, _, h => by
    rw [fadd_n] at h
    obtain ⟨hb, h⟩ := b_inv h
    cases h
    exact .inl ⟨rfl, Nat.le_of_ble_eq_true hb, rfl⟩
  | .c k c p, r, g, h => by
    rw [fadd_c] at h
    obtain ⟨⟨g1, g2, g3, g4⟩, g5⟩ := g
    have hg : plGet (E (.c k c p)) (kE x) = if kE k = kE x then some (cE c) else plGet (E p) (kE x) := rfl
    cases e : Nat.beq k x with
    | false =>
      rw [e] at h
      obtain ⟨r', h1, h2⟩ := o_inv h
      cases h2
      have hne : ¬ kE k = kE x := fun q => by
        rw [kE_inj.mp q, show Nat.beq x x = true from Nat.beq_refl x] at e
        cases e
      rw [hg, if_neg hne]
      rcases fadd_sem g5 h1 with ⟨a, b, d⟩ | ⟨c', a, b, d⟩
      · exact .inl ⟨a, b, by show _ :: E r' = _; rw [d]; rfl⟩
      · refine .inr ⟨c', a, b, ?_⟩
        show (kE k, cE c) :: E r' = (if kE k = kE x then (kE k, cE (c' + v)) else (kE k, cE c)) :: ((E p).map fun e => if e.1 = kE x then (e.1, cE (c' + v)) else e)
        rw [if_neg hne, d]
    | true =>
      rw [e] at h
      obtain ⟨hb, h⟩ := b_inv h
      cases h
      have hkx : k = x := Nat.eq_of_beq_eq_true e
      subst hkx
      refine .inr ⟨c, by rw [hg, if_pos rfl], Nat.le_of_ble_eq_true hb, ?_⟩
      show (kE k, cE (c + v)) :: E p = (if kE k = kE k then (kE k, cE (c + v)) else (kE k, cE c)) :: ((E p).map fun e => if e.1 = kE k then (e.1, cE (c + v)) else e)
      rw [if_pos rfl, map_id_of (fun q => g1 (mem_E.mp q))]
theorem cE_ne {c : Nat} (h : 0 < c) : ¬ cE c = (0, 1) := fun q => by
  have : (c : Int) = 0 := congrArg Prod.fst q
  omega
theorem fadd_E {K : Nat → Prop} {x v : Nat} {p r : FP} (hK : ∀ k, K k → k < 793) (g : Gd K p) (hv : 0 < v) (h : fadd x v p = some r) : addT (E p) (kE x) (cE v) = some (E r) := by
  have hl := g.len hK
  unfold addT
  rw [if_pos (by unfold lim; exact ar13 hl)]
  rcases fadd_sem g h with ⟨a, b, d⟩ | ⟨c, a, b, d⟩
  · rw [a]
    show (if cE v = (0, 1) then none else some (plPut (E p) (kE x) (cE v))) = _
    rw [if_neg (cE_ne hv)]
    unfold plPut
    rw [a, d]
  · rw [a]
    have b : c + v ≤ 576460752303423488 := b
    have hr : raddL (cE c) (cE v) = some (cE (c + v)) := by
      have := radd_one (a := (c : Int)) (b := (v : Int)) (sm_nat (by show c ≤ 576460752303423488; exact Nat.le_of_add_right_le b)) (sm_nat (by show v ≤ 576460752303423488; exact Nat.le_of_add_left_le b)) (by
        have := sm_nat (c := c + v) b
        simpa using this)
      simpa [cE] using this
    show (match raddL (cE c) (cE v) with | some t => if t = (0, 1) then some (plDel (E p) (kE x)) else some (plPut (E p) (kE x) t) | none => none) = _
    rw [hr]
    dsimp only
    rw [if_neg (cE_ne (by exact ar57 hv))]
    unfold plPut
    rw [a, d]
theorem fsub_mem {x v : Nat} : ∀ {p r : FP}, fsub x v p = some r → ∀ k ∈ ks r, k ∈ ks p
  | .n, r, h, k, hk => by cases h
  | .c k' c p, r, h, k, hk => by
    rw [fsub_c] at h
    cases e : Nat.beq k' x with
    | false =>
      rw [e] at h
      obtain ⟨r', h1, h2⟩ := o_inv h
      cases h2
      rcases List.mem_cons.mp hk with rfl | hk
      · exact List.mem_cons_self
      · exact List.mem_cons_of_mem _ (fsub_mem h1 k hk)
    | true =>
      rw [e] at h
      cases e2 : Nat.beq c v with
      | false =>
        rw [e2] at h
        obtain ⟨_, h⟩ := b_inv h
        cases h
        exact hk
      | true =>
        rw [e2] at h
        cases h
        exact List.mem_cons_of_mem _ hk
theorem fsub_Gd {K : Nat → Prop} {x v : Nat} : ∀ {p r : FP}, Gd K p → fsub x v p = some r → Gd K r
  | .n, r, _, h => by cases h
  | .c k' c p, r, g, h => by
    rw [fsub_c] at h
    obtain ⟨⟨g1, g2, g3, g4⟩, g5⟩ := g
    cases e : Nat.beq k' x with
    | false =>
      rw [e] at h
      obtain ⟨r', h1, h2⟩ := o_inv h
      cases h2
      exact ⟨⟨fun q => g1 (fsub_mem h1 k' q), g2, g3, g4⟩, fsub_Gd g5 h1⟩
    | true =>
      rw [e] at h
      cases e2 : Nat.beq c v with
      | false =>
        rw [e2] at h
        obtain ⟨hb, h⟩ := b_inv h
        cases h
        have hb : v ≤ c := Nat.le_of_ble_eq_true hb
        have hne : c ≠ v := fun q => by
          rw [q, show Nat.beq v v = true from Nat.beq_refl v] at e2
          cases e2
        exact ⟨⟨g1, g2, by exact ar202 hb hne, Nat.le_trans (Nat.sub_le _ _) g4⟩, g5⟩
      | true =>
        rw [e2] at h
        cases h
        exact g5
theorem filter_id_of {P : PL} {k : Q2} (h : k ∉ keys P) : (P.filter fun e => !decide (e.1 = k)) = P := by
  refine List.filter_eq_self.mpr fun e he => ?_
  have : ¬ e.1 = k := fun q => h (q ▸ List.mem_map_of_mem he)
  rw [decide_eq_false this]; rfl
theorem fsub_sem {K : Nat → Prop} {x v : Nat} : ∀ {p r : FP}, Gd K p → fsub x v p = some r →
    ∃ c, plGet (E p) (kE x) = some (cE c) ∧ c ≤ big59 ∧ ((c = v ∧ E r = plDel (E p) (kE x)) ∨ (v < c ∧ E r = (E p).map fun e => if e.1 = kE x then (e.1, cE (c - v)) else e))
  | .n, r, _, h => by cases h
  | .c k c p, r, g, h => by
    rw [fsub_c] at h
    obtain ⟨⟨g1, g2, g3, g4⟩, g5⟩ := g
    have hg : plGet (E (.c k c p)) (kE x) = if kE k = kE x then some (cE c) else plGet (E p) (kE x) := rfl
    cases e : Nat.beq k x with
    | false =>
      rw [e] at h
      obtain ⟨r', h1, h2⟩ := o_inv h
      cases h2
      have hne : ¬ kE k = kE x := fun q => by
        rw [kE_inj.mp q, show Nat.beq x x = true from Nat.beq_refl x] at e
        cases e
      rw [hg, if_neg hne]
      obtain ⟨c', a, b, d⟩ := fsub_sem g5 h1
      refine ⟨c', a, b, ?_⟩
      rcases d with ⟨d1, d2⟩ | ⟨d1, d2⟩
      · refine .inl ⟨d1, ?_⟩
        show (kE k, cE c) :: E r' = ((kE k, cE c) :: E p).filter fun e => !decide (e.1 = kE x)
        rw [List.filter_cons_of_pos (by rw [decide_eq_false hne]; rfl), d2]
        rfl
      · refine .inr ⟨d1, ?_⟩
        show (kE k, cE c) :: E r' = (if kE k = kE x then (kE k, cE (c' - v)) else (kE k, cE c)) :: ((E p).map fun e => if e.1 = kE x then (e.1, cE (c' - v)) else e)
        rw [if_neg hne, d2]
    | true =>
      rw [e] at h
      have hkx : k = x := Nat.eq_of_beq_eq_true e
      subst hkx
      have hid : kE k ∉ keys (E p) := fun q => g1 (mem_E.mp q)
      refine ⟨c, by rw [hg, if_pos rfl], g4, ?_⟩
      cases e2 : Nat.beq c v with
      | false =>
        rw [e2] at h
        obtain ⟨hb, h⟩ := b_inv h
        cases h
        have hb : v ≤ c := Nat.le_of_ble_eq_true hb
        have hne : c ≠ v := fun q => by
          rw [q, show Nat.beq v v = true from Nat.beq_refl v] at e2
          cases e2
        refine .inr ⟨by exact ar203 hb hne, ?_⟩
        show (kE k, cE (c - v)) :: E p = (if kE k = kE k then (kE k, cE (c - v)) else (kE k, cE c)) :: ((E p).map fun e => if e.1 = kE k then (e.1, cE (c - v)) else e)
        rw [if_pos rfl, map_id_of hid]
      | true =>
        rw [e2] at h
        cases h
        refine .inl ⟨Nat.eq_of_beq_eq_true e2, ?_⟩
        show E p = ((kE k, cE c) :: E p).filter fun e => !decide (e.1 = kE k)
        rw [List.filter_cons_of_neg (by simp), filter_id_of hid]
theorem fsub_E {K : Nat → Prop} {x v : Nat} {p r : FP} (hK : ∀ k, K k → k < 793) (g : Gd K p) (h : fsub x v p = some r) : addT (E p) (kE x) (nE v) = some (E r) := by
  have hl := g.len hK
  unfold addT
  rw [if_pos (by unfold lim; exact ar13 hl)]
  obtain ⟨c, a, b, d⟩ := fsub_sem g h
  have b : c ≤ 576460752303423488 := b
  have hvc : v ≤ c := by rcases d with ⟨d, _⟩ | ⟨d, _⟩ <;> (first | exact Nat.le_of_eq d.symm | exact Nat.le_of_lt d)
  rw [a]
  have smn : sm (0 - (v : Int)) := by
    show (0 - (v : Int)).natAbs < big
    unfold big; exact ar204 b hvc
  have smd : sm ((c : Int) + (0 - (v : Int))) := by
    show ((c : Int) + (0 - (v : Int))).natAbs < big
    unfold big; exact ar205 b hvc
  have hr : raddL (cE c) (nE v) = some ((c : Int) + (0 - (v : Int)), 1) := radd_one (sm_nat b) smn smd
  show (match raddL (cE c) (nE v) with | some t => if t = (0, 1) then some (plDel (E p) (kE x)) else some (plPut (E p) (kE x) t) | none => none) = _
  rw [hr]
  dsimp only
  rcases d with ⟨d1, d2⟩ | ⟨d1, d2⟩
  · subst d1
    rw [if_pos (by congr 1; exact ar206), d2]
  · rw [if_neg (fun q => by have := congrArg Prod.fst q; dsimp only at this; omega)]
    have e : (((c : Int) + (0 - (v : Int)), (1 : Int)) : Q2) = cE (c - v) := by
      unfold cE
      congr 1
      exact ar207 hvc
    rw [e]
    unfold plPut
    rw [a, d2]
end Mine
namespace Mine
open PySem PyProof.Rows
/-- the same value, worked out first -/
noncomputable def forceN {α : Type} (n : Nat) (k : Nat → α) : α := Nat.rec (k 0) (fun m _ => k (Nat.succ m)) n
noncomputable def forceP {α : Type} (p : FP) (k : FP → α) : α := FP.rec (motive := fun _ => (FP → α) → α) (fun k => k .n) (fun a c _ ih k => forceN a fun a => forceN c fun c => ih fun r => k (.c a c r)) p k
theorem forceN_eq {α : Type} {n : Nat} {k : Nat → α} : forceN n k = k n := by cases n <;> rfl
theorem forceP_c {α : Type} {a c : Nat} {r : FP} {k : FP → α} : forceP (.c a c r) k = forceN a fun a => forceN c fun c => forceP r fun r => k (.c a c r) := rfl
theorem forceP_eq {α : Type} : ∀ {p : FP} {k : FP → α}, forceP p k = k p
  | .n, _ => rfl
  | .c a c r, k => by rw [forceP_c, forceN_eq, forceN_eq, forceP_eq]
/-- sums -/
noncomputable def faddAll (q : FP) : FP → Option FP := FP.rec (motive := fun _ => FP → Option FP) (fun acc => some acc) (fun k c _ ih acc => Option.rec none (fun acc => ih acc) (fadd k c acc)) q
theorem faddAll_c {k c : Nat} {q acc : FP} : faddAll (.c k c q) acc = Option.rec none (fun acc => faddAll q acc) (fadd k c acc) := rfl
theorem faddAll_E {K : Nat → Prop} (hK : ∀ k, K k → k < 793) : ∀ {q acc r : FP}, Gd K q → Gd K acc → faddAll q acc = some r → Gd K r ∧ foldF (fun acc (e : Q2 × Q2) => addT acc e.1 e.2) (E acc) (E q) = some (E r)
  | .n, acc, r, _, ga, h => by cases h; exact ⟨ga, rfl⟩
  | .c k c q, acc, r, gq, ga, h => by
    rw [faddAll_c] at h
    obtain ⟨a', h1, h2⟩ := o_inv h
    obtain ⟨⟨g1, g2, g3, g4⟩, g5⟩ := gq
    obtain ⟨i1, i2⟩ := faddAll_E hK g5 (fadd_Gd g2 g3 ga h1) h2
    refine ⟨i1, ?_⟩
    show foldF _ (E acc) ((kE k, cE c) :: E q) = _
    unfold foldF
    rw [fadd_E hK ga g3 h1]
    exact i2
/-- products -/
noncomputable def fmulRow (kb cb : Nat) (p : FP) : FP → Option FP := FP.rec (motive := fun _ => FP → Option FP) (fun acc => some acc) (fun k c _ ih acc => Option.rec none (fun acc => ih acc) (fadd (Nat.add k kb) (Nat.mul c cb) acc)) p
theorem fmulRow_c {kb cb k c : Nat} {p acc : FP} : fmulRow kb cb (.c k c p) acc = Option.rec none (fun acc => fmulRow kb cb p acc) (fadd (k + kb) (c * cb) acc) := rfl
theorem fadd_le {K : Nat → Prop} {x v : Nat} {p r : FP} (g : Gd K p) (h : fadd x v p = some r) : v ≤ big59 := by
  rcases fadd_sem g h with ⟨_, b, _⟩ | ⟨c, _, b, _⟩
  · exact b
  · have b : c + v ≤ 576460752303423488 := b
    show v ≤ 576460752303423488
    exact Nat.le_of_add_left_le b
theorem mul_E {a b : Nat} (ha : a ≤ big59) (hb : b ≤ big59) (h : a * b ≤ big59) : rmulL (cE a) (cE b) = some (cE (a * b)) := by
  have := rmul_one (a := (a : Int)) (b := (b : Int)) (sm_nat ha) (sm_nat hb) (by
    have := sm_nat (c := a * b) h
    simpa using this)
  simpa [cE] using this
theorem fmulRow_E {kb cb : Nat} (hb : Kg kb) (hc : 0 < cb) (hc2 : cb ≤ big59) : ∀ {p acc r : FP}, Gd Kg p → Gd Kw acc → fmulRow kb cb p acc = some r → Gd Kw r ∧
    foldF (fun acc (e : Q2 × Q2) => match rmulL e.2 (cE cb) with
      | some r => addT acc (pprod e.1 (kE kb)) r
      | none => none) (E acc) (E p) = some (E r)
  | .n, acc, r, _, ga, h => by cases h; exact ⟨ga, rfl⟩
  | .c k c p, acc, r, gp, ga, h => by
    rw [fmulRow_c] at h
    obtain ⟨a', h1, h2⟩ := o_inv h
    obtain ⟨⟨g1, g2, g3, g4⟩, g5⟩ := gp
    have hpos : 0 < c * cb := Nat.mul_pos g3 hc
    obtain ⟨i1, i2⟩ := fmulRow_E hb hc hc2 g5 (fadd_Gd (g2.add hb) hpos ga h1) h2
    refine ⟨i1, ?_⟩
    show foldF _ (E acc) ((kE k, cE c) :: E p) = _
    unfold foldF
    dsimp only
    rw [mul_E g4 hc2 (fadd_le ga h1)]
    dsimp only
    rw [kadd_E g2 hb, fadd_E (fun _ h => h.lt) ga hpos h1]
    exact i2
noncomputable def fmul (p q : FP) : FP → Option FP := FP.rec (motive := fun _ => FP → Option FP) (fun acc => some acc) (fun kb cb _ ih acc => Option.rec none (fun acc => forceP acc ih) (fmulRow kb cb p acc)) q
theorem fmul_c {p q acc : FP} {kb cb : Nat} : fmul p (.c kb cb q) acc = Option.rec none (fun acc => forceP acc (fmul p q)) (fmulRow kb cb p acc) := rfl
theorem fmul_part {p : FP} (gp : Gd Kg p) : ∀ {q acc r : FP}, Gd Kg q → Gd Kw acc → fmul p q acc = some r → Gd Kw r ∧ foldF (fun acc (e : Q2 × Q2) => mvmulRow (E p) e.1 e.2 acc) (E acc) (E q) = some (E r)
  | .n, acc, r, _, ga, h => by cases h; exact ⟨ga, rfl⟩
  | .c kb cb q, acc, r, gq, ga, h => by
    rw [fmul_c] at h
    obtain ⟨a', h1, h2⟩ := o_inv h
    rw [forceP_eq] at h2
    obtain ⟨⟨g1, g2, g3, g4⟩, g5⟩ := gq
    obtain ⟨j1, j2⟩ := fmulRow_E g2 g3 g4 gp ga h1
    obtain ⟨i1, i2⟩ := fmul_part gp g5 j1 h2
    refine ⟨i1, ?_⟩
    show foldF _ (E acc) ((kE kb, cE cb) :: E q) = _
    unfold foldF
    dsimp only
    have : mvmulRow (E p) (kE kb) (cE cb) (E acc) = some (E a') := by
      unfold mvmulRow
      exact (fold_keysE (F := fun acc k c => match rmulL c (cE cb) with
        | some r => addT acc (pprod k (kE kb)) r
        | none => none) gp.keys_nodup).trans j2
    rw [this]
    exact i2
theorem fmul_E {p q r : FP} (gp : Gd Kg p) (gq : Gd Kg q) (h : fmul p q .n = some r) : Gd Kw r ∧ mvmulL (E p) (E q) = some (E r) := by
  obtain ⟨i1, i2⟩ := fmul_part gp gq (acc := .n) trivial h
  refine ⟨i1, ?_⟩
  have l1 := gp.len fun _ h => h.lt
  have l2 := gq.len fun _ h => h.lt
  unfold mvmulL
  rw [if_pos (by unfold lim; exact ar208 l1 l2)]
  exact (fold_keysE (F := fun acc k c => mvmulRow (E p) k c acc) gq.keys_nodup).trans i2
/-- maps -/
theorem mapL_part {f : Q2 → Q2 → Option (Q2 × Q2)} {g : Q2 × Q2 → Q2 × Q2} : ∀ {rest done : PL}, (∀ e ∈ rest, f e.1 e.2 = some (g e)) → (keys (done ++ rest.map g)).Nodup → done.length + rest.length < 10000 →
    foldF (fun acc (e : Q2 × Q2) => match f e.1 e.2 with
      | some kc => if acc.length < lim then some (plPut acc kc.1 kc.2) else none
      | none => none) done rest = some (done ++ rest.map g)
  | [], done, _, _, _ => by simp [foldF]
  | e :: rest, done, h1, h2, h3 => by
    have h3' : done.length + (rest.length + 1) < 10000 := by simpa using h3
    unfold foldF
    rw [h1 e List.mem_cons_self]
    dsimp only
    rw [if_pos (by unfold lim; exact Nat.lt_of_add_right_lt h3)]
    have hk : (g e).1 ∉ keys done := by
      intro q
      unfold keys at h2
      rw [List.map_append, List.map_cons, List.map_cons, List.nodup_append] at h2
      exact h2.2.2 _ q _ List.mem_cons_self rfl
    have hp : plPut done (g e).1 (g e).2 = done ++ [g e] := by
      unfold plPut
      rw [get_none hk]
    rw [hp]
    dsimp only
    rw [mapL_part (fun x hx => h1 x (List.mem_cons_of_mem _ hx)) (by simpa using h2) (by simp; exact ar210 h3')]
    simp
theorem mapL_eq {f : Q2 → Q2 → Option (Q2 × Q2)} {g : Q2 × Q2 → Q2 × Q2} {P : PL} (hn : (keys P).Nodup) (hl : P.length < 10000) (hf : ∀ e ∈ P, f e.1 e.2 = some (g e)) (hg : (keys (P.map g)).Nodup) : mapL f P = some (P.map g) := by
  unfold mapL
  rw [if_pos (by unfold lim; exact hl)]
  refine (fold_keysE (F := fun acc k c => match f k c with
    | some kc => if acc.length < lim then some (plPut acc kc.1 kc.2) else none
    | none => none) hn).trans ?_
  exact mapL_part (done := []) hf (by simpa using hg) (by simpa using hl)
noncomputable def fshift (s v : Nat) (p : FP) : FP := FP.rec .n (fun k c _ ih => .c (Nat.add k s) (Nat.mul c v) ih) p
theorem fshift_c {s v k c : Nat} {p : FP} : fshift s v (.c k c p) = .c (k + s) (c * v) (fshift s v p) := rfl
theorem fshift_ks {s v : Nat} : ∀ {p : FP}, ks (fshift s v p) = (ks p).map (· + s)
  | .n => rfl
  | .c k c p => by
    rw [fshift_c]
    show (k + s) :: ks (fshift s v p) = (k + s) :: (ks p).map (· + s)
    rw [fshift_ks]
end Mine
namespace Mine
open PySem PyProof.Rows
theorem apart_of {α : Type} {h : α → Int} : ∀ {l : List α}, (∀ x ∈ l, ∀ y ∈ l, x ≠ y → h x ≠ h y) → l.Nodup → apart (l.map h) = true
  | [], _, _ => rfl
  | a :: l, hi, hn => by
    obtain ⟨h1, h2⟩ := List.nodup_cons.mp hn
    show (((l.map h).all fun y => h a != y) && apart (l.map h)) = true
    rw [apart_of (fun x hx y hy => hi x (List.mem_cons_of_mem _ hx) y (List.mem_cons_of_mem _ hy)) h2, Bool.and_true]
    refine List.all_eq_true.mpr fun z hz => ?_
    obtain ⟨y, hy, rfl⟩ := List.mem_map.mp hz
    have : h a ≠ h y := hi a List.mem_cons_self y (List.mem_cons_of_mem _ hy) fun q => h1 (q ▸ hy)
    simpa using this
noncomputable def hE (k : Nat) : Int := hashK (kL (kE k))
noncomputable def gridL : List Nat := (List.range 13).flatMap fun i => (List.range 13).map fun j => 32 * i + j
noncomputable def hN (k : Nat) : Nat := (hE k + 9223372036854775808).toNat
noncomputable def forceL {α : Type} (l : List Nat) (k : List Nat → α) : α := List.rec (motive := fun _ => (List Nat → α) → α) (fun k => k []) (fun a _ ih k => forceN a fun a => ih fun r => k (a :: r)) l k
theorem forceL_eq {α : Type} : ∀ {l : List Nat} {k : List Nat → α}, forceL l k = k l
  | [], _ => rfl
  | a :: l, k => by
    show (forceN a fun a => forceL l fun r => k (a :: r)) = _
    rw [forceN_eq, forceL_eq]
noncomputable def outB (x : Nat) (l : List Nat) : Bool := List.rec true (fun a _ ih => Bool.rec ih false (Nat.beq x a)) l
noncomputable def apB (l : List Nat) : Bool := List.rec true (fun a l ih => Bool.rec false ih (outB a l)) l
theorem outB_ne {x : Nat} : ∀ {l : List Nat}, outB x l = true → ∀ y ∈ l, x ≠ y
  | [], _, y, h => by cases h
  | a :: l, h, y, hy => by
    have h' : (Bool.rec (outB x l) false (Nat.beq x a) : Bool) = true := h
    cases e : Nat.beq x a with
    | true => rw [e] at h'; cases h'
    | false =>
      rw [e] at h'
      rcases List.mem_cons.mp hy with rfl | hy
      · intro q
        subst q
        rw [show Nat.beq x x = true from Nat.beq_refl x] at e
        cases e
      · exact outB_ne h' y hy
theorem apB_inj {h : Nat → Nat} : ∀ {l : List Nat}, apB (l.map h) = true → ∀ x ∈ l, ∀ y ∈ l, x ≠ y → h x ≠ h y
  | [], _, x, hx => by cases hx
  | a :: l, ha, x, hx => by
    have h' : (Bool.rec false (apB (l.map h)) (outB (h a) (l.map h)) : Bool) = true := ha
    cases e : outB (h a) (l.map h) with
    | false => rw [e] at h'; cases h'
    | true =>
      rw [e] at h'
      have hd : ∀ y ∈ l, h a ≠ h y := fun y hy => outB_ne e _ (List.mem_map_of_mem hy)
      intro y hy hne
      rcases List.mem_cons.mp hx with ex | hx
      · rcases List.mem_cons.mp hy with ey | hy
        · exact absurd (ex.trans ey.symm) hne
        · exact ex ▸ hd y hy
      · rcases List.mem_cons.mp hy with ey | hy
        · exact fun q => hd x hx (ey ▸ q.symm)
        · exact apB_inj h' x hx y hy hne
theorem grid_ok : forceL (gridL.map hN) apB = true := by decide +kernel
theorem mem_grid {k : Nat} (h : Kg k) : k ∈ gridL := by
  have := h.1; have := h.2
  refine List.mem_flatMap.mpr ⟨k / 32, List.mem_range.mpr (by exact ar211 this), List.mem_map.mpr ⟨k % 32, List.mem_range.mpr (by omega), by exact ar213⟩⟩
theorem hE_inj {a b : Nat} (ha : Kg a) (hb : Kg b) (hne : a ≠ b) : hE a ≠ hE b := by
  have g := grid_ok
  rw [forceL_eq] at g
  have := apB_inj g a (mem_grid ha) b (mem_grid hb) hne
  exact fun q => this (by unfold hN; rw [q])
theorem apart_E {p : FP} (g : Gd Kg p) : apart ((E p).map fun e => hashK (kL e.1)) = true := by
  have e : ((E p).map fun e => hashK (kL e.1)) = (ks p).map hE := by
    have : ((E p).map fun e => hashK (kL e.1)) = (keys (E p)).map fun k => hashK (kL k) := by
      unfold keys
      rw [List.map_map]; rfl
    rw [this, keys_E, List.map_map]; rfl
  rw [e]
  exact apart_of (fun x hx y hy hne => hE_inj (g.all x hx) (g.all y hy) hne) g.nodup
end Mine
namespace Mine
open PySem PyProof.Rows
/-- all pairs of powers within the grid, all numbers small -/
noncomputable def okB (p : FP) : Bool := FP.rec true (fun k v _ ih => Bool.rec false (Bool.rec false (Bool.rec false ih (Nat.ble v big59)) (Nat.ble k 396)) (Nat.ble (Nat.mod k 32) 12)) p
theorem bb_inv {b X : Bool} (h : (Bool.rec false X b : Bool) = true) : b = true ∧ X = true := by
  cases b with
  | false => cases h
  | true => exact ⟨rfl, h⟩
theorem okB_c {k v : Nat} {r : FP} (h : okB (.c k v r) = true) : Kg k ∧ v ≤ big59 ∧ okB r = true := by
  obtain ⟨h1, h⟩ := bb_inv (show (Bool.rec false (Bool.rec false (Bool.rec false (okB r) (Nat.ble v big59)) (Nat.ble k 396)) (Nat.ble (Nat.mod k 32) 12) : Bool) = true from h)
  obtain ⟨h2, h⟩ := bb_inv h
  obtain ⟨h3, h⟩ := bb_inv h
  exact ⟨⟨Nat.le_of_ble_eq_true h1, Nat.le_of_ble_eq_true h2⟩, Nat.le_of_ble_eq_true h3, h⟩
theorem shift_nodup {s v : Nat} {K : Nat → Prop} {p : FP} (g : Gd K p) : (ks (fshift s v p)).Nodup := by
  rw [fshift_ks]
  exact nodup_map_inj (fun a b (q : a + s = b + s) => by exact Nat.add_right_cancel q) g.nodup
theorem okB_Gd {s v : Nat} {K : Nat → Prop} (hv : 0 < v) : ∀ {p : FP}, Gd K p → okB (fshift s v p) = true → Gd Kg (fshift s v p)
  | .n, _, _ => trivial
  | .c k c p, g, h => by
    rw [fshift_c] at h ⊢
    obtain ⟨h1, h2, h3⟩ := okB_c h
    have hn := shift_nodup (s := s) (v := v) g
    rw [fshift_c] at hn
    exact ⟨⟨(List.nodup_cons.mp hn).1, h1, Nat.mul_pos g.1.2.2.1 hv, h2⟩, okB_Gd hv g.2 h3⟩
theorem kadd_E2 {a b : Nat} (h : a % 32 + b % 32 < 32) : pprod (kE a) (kE b) = kE (a + b) := by
  simp only [pprod, kE, Prod.mk.injEq]
  exact DM1 h
theorem shift_part {s v : Nat} (hv2 : v ≤ big59) : ∀ {p : FP}, (∀ k ∈ ks p, k % 32 + s % 32 < 32) → (∀ e ∈ E p, ∃ c : Nat, c ≤ big59 ∧ c * v ≤ big59 ∧ e.2 = cE c) →
    ∃ g : Q2 × Q2 → Q2 × Q2, (E p).map g = E (fshift s v p) ∧ ∀ e ∈ E p, (match rmulL e.2 (cE v) with
      | some r => some (pprod e.1 (kE s), r)
      | none => none) = some (g e) := by
  intro p hk hc
  refine ⟨fun e => (pprod e.1 (kE s), (e.2.1 * (v : Int), 1)), ?_, ?_⟩
  · clear hc
    induction p with
    | n => rfl
    | c k c p ih =>
      rw [fshift_c]
      show (pprod (kE k) (kE s), ((c : Int) * (v : Int), (1 : Int))) :: (E p).map _ = (kE (k + s), cE (c * v)) :: E (fshift s v p)
      rw [ih (fun k hk' => hk k (List.mem_cons_of_mem _ hk')), kadd_E2 (hk k List.mem_cons_self)]
      simp [cE]
  · intro e he
    obtain ⟨c, c1, c2, c3⟩ := hc e he
    dsimp only
    rw [c3, mul_E c1 hv2 c2]
    simp [cE]
theorem mem_cE {K : Nat → Prop} : ∀ {p : FP}, Gd K p → ∀ e ∈ E p, ∃ c : Nat, c ≤ big59 ∧ e.2 = cE c
  | .n, _, e, h => by cases h
  | .c k c p, g, e, h => by
    rcases List.mem_cons.mp h with rfl | h
    · exact ⟨c, g.1.2.2.2, rfl⟩
    · exact mem_cE g.2 e h
/-- all products with v small -/
noncomputable def Mv (v : Nat) : FP → Prop
  | .n => True
  | .c _ c r => c * v ≤ big59 ∧ Mv v r
theorem mem_cE2 {K : Nat → Prop} {v : Nat} : ∀ {p : FP}, Gd K p → Mv v p → ∀ e ∈ E p, ∃ c : Nat, c ≤ big59 ∧ c * v ≤ big59 ∧ e.2 = cE c
  | .n, _, _, e, h => by cases h
  | .c k c p, g, m, e, h => by
    rcases List.mem_cons.mp h with rfl | h
    · exact ⟨c, g.1.2.2.2, m.1, rfl⟩
    · exact mem_cE2 g.2 m.2 e h
theorem Mv_ok {s v : Nat} : ∀ {p : FP}, okB (fshift s v p) = true → Mv v p
  | .n, _ => trivial
  | .c k c p, h => by
    rw [fshift_c] at h
    obtain ⟨_, h2, h3⟩ := okB_c h
    exact ⟨h2, Mv_ok h3⟩
theorem shiftL_E {K : Nat → Prop} {s v : Nat} {p : FP} (hK : ∀ k, K k → k < 793) (g : Gd K p) (hk : ∀ k, K k → k % 32 + s % 32 < 32) (hv : 0 < v) (hv2 : v ≤ big59) (hm : Mv v p) : mvshiftL (E p) (kE s) (cE v) = some (E (fshift s v p)) := by
  obtain ⟨f, e1, e2⟩ := shift_part (s := s) hv2 (fun k hk' => hk k (g.all k hk')) (mem_cE2 g hm)
  have hl := g.len hK
  unfold mvshiftL
  rw [if_neg (cE_ne hv)]
  rw [← e1]
  refine mapL_eq g.keys_nodup (by exact ar13 hl) e2 ?_
  rw [e1, keys_E]
  exact nodup_map_inj (fun a b q => kE_inj.mp q) (shift_nodup g)
theorem shift_E {s v : Nat} {p : FP} (g : Gd Kw p) (hs : s % 32 ≤ 7) (hv : 0 < v) (hv2 : v ≤ big59) (h : okB (fshift s v p) = true) : Gd Kg (fshift s v p) ∧ mvshiftL (E p) (kE s) (cE v) = some (E (fshift s v p)) :=
  ⟨okB_Gd hv g h, shiftL_E (fun _ h => h.lt) g (fun k hk => by have := hk.1; exact ar218 hs this) hv hv2 (Mv_ok h)⟩
theorem addL_E {p q r : FP} (gp : Gd Kg p) (gq : Gd Kg q) (h : faddAll q p = some r) : Gd Kg r ∧ mvaddL (E p) (E q) = some (E r) := by
  obtain ⟨i1, i2⟩ := faddAll_E (fun _ h => Nat.lt_trans h.lt (by decide)) gq gp h
  refine ⟨i1, ?_⟩
  have l1 := gp.len fun _ h => h.lt
  have l2 := gq.len fun _ h => h.lt
  unfold mvaddL
  rw [if_pos ⟨by unfold lim; exact ar0 l1, by unfold lim; exact ar0 l2, apart_E gp⟩]
  exact (fold_keysE (F := fun acc k c => addT acc k c) gq.keys_nodup).trans i2
/-- take a multiple off -/
noncomputable def fsubRow (s v : Nat) (p : FP) : FP → Option FP := FP.rec (motive := fun _ => FP → Option FP) (fun acc => some acc) (fun k c _ ih acc => Option.rec none (fun acc => ih acc) (fsub (Nat.add k s) (Nat.mul c v) acc)) p
theorem fsubRow_c {s v k c : Nat} {p acc : FP} : fsubRow s v (.c k c p) acc = Option.rec none (fun acc => fsubRow s v p acc) (fsub (k + s) (c * v) acc) := rfl
noncomputable def ng (e : Q2 × Q2) : Q2 × Q2 := (e.1, (0 - e.2.1, e.2.2))
theorem fsub_le {K : Nat → Prop} {x v : Nat} {p r : FP} (g : Gd K p) (h : fsub x v p = some r) : v ≤ big59 := by
  obtain ⟨c, _, b, d⟩ := fsub_sem g h
  have b : c ≤ 576460752303423488 := b
  show v ≤ 576460752303423488
  rcases d with ⟨d, _⟩ | ⟨d, _⟩ <;> (first | exact ar215 b d | exact ar216 b d)
theorem fsubRow_E {s v : Nat} : ∀ {p acc r : FP}, Gd Kg acc → fsubRow s v p acc = some r → Gd Kg r ∧ Mv v p ∧ foldF (fun acc (e : Q2 × Q2) => addT acc e.1 e.2) (E acc) ((E (fshift s v p)).map ng) = some (E r)
  | .n, acc, r, ga, h => by cases h; exact ⟨ga, trivial, rfl⟩
  | .c k c p, acc, r, ga, h => by
    rw [fsubRow_c] at h
    obtain ⟨a', h1, h2⟩ := o_inv h
    obtain ⟨i1, i2, i3⟩ := fsubRow_E (fsub_Gd ga h1) h2
    refine ⟨i1, ⟨fsub_le ga h1, i2⟩, ?_⟩
    rw [fshift_c]
    show foldF _ (E acc) ((kE (k + s), nE (c * v)) :: (E (fshift s v p)).map ng) = _
    unfold foldF
    rw [fsub_E (fun _ h => Nat.lt_trans h.lt (by decide)) ga h1]
    exact i3
theorem keys_ng {P : PL} : keys (P.map ng) = keys P := by
  unfold keys
  rw [List.map_map]; rfl
theorem negL_E {P : PL} (hn : (keys P).Nodup) (hl : P.length < 10000) : mvnegL P = some (P.map ng) := by
  unfold mvnegL
  exact mapL_eq hn hl (fun e _ => rfl) (by rw [keys_ng]; exact hn)
theorem subL_E {s v : Nat} {B l r : FP} (gB : Gd Kg B) (gl : Gd Kg l) (h : fsubRow s v B l = some r) : Gd Kg r ∧ Mv v B ∧ mvsubL (E l) (E (fshift s v B)) = some (E r) := by
  obtain ⟨i1, i2, i3⟩ := fsubRow_E gl h
  refine ⟨i1, i2, ?_⟩
  have hn : (keys (E (fshift s v B))).Nodup := by
    rw [keys_E]
    exact nodup_map_inj (fun a b q => kE_inj.mp q) (shift_nodup gB)
  have hl : (E (fshift s v B)).length ≤ 397 := by
    rw [E_len, fshift_ks, List.length_map, ← E_len]
    exact gB.len fun _ h => h.lt
  have l1 := gl.len fun _ h => h.lt
  unfold mvsubL
  rw [negL_E hn (by exact ar0 hl)]
  dsimp only
  unfold mvaddL
  rw [if_pos ⟨by unfold lim; exact ar0 l1, by rw [List.length_map]; unfold lim; exact ar0 hl, apart_E gl⟩]
  exact (fold_keysE (F := fun acc k c => addT acc k c) (by rw [keys_ng]; exact hn)).trans i3
end Mine
namespace Mine
open PySem PyProof.Rows
theorem fmod_nat {a b : Nat} : (a : Int).fmod (b : Int) = ((a % b : Nat) : Int) := by
  rw [Int.fmod_eq_emod_of_nonneg _ (Int.natCast_nonneg b)]
  exact (Int.natCast_emod a b).symm
theorem fdiv_nat {a b : Nat} : (a : Int).fdiv (b : Int) = ((a / b : Nat) : Int) := by
  rw [Int.fdiv_eq_ediv_of_nonneg _ (Int.natCast_nonneg b)]
  exact (Int.natCast_ediv a b).symm
noncomputable def gS (s : Q2) : Option (Option Q2) := if s.2 = 0 then some none else some (some (s.2, s.1.fmod s.2))
theorem gcd_iter : ∀ (m : Nat) (a b : Nat), b < 2 ^ m → iterF gS (2 * m + 1) ((a : Int), (b : Int)) = some (((Nat.gcd a b : Nat) : Int), 0)
  | 0, a, b, h => by
    have hb : b = 0 := by exact ar219 h
    subst hb
    simp [iterF, gS]
  | m + 1, a, b, h => by
    by_cases hb : b = 0
    · subst hb
      simp [iterF, gS]
    · rw [show 2 * (m + 1) + 1 = (2 * m + 2) + 1 from by exact ar221]
      have s1 : gS ((a : Int), (b : Int)) = some (some ((b : Int), ((a % b : Nat) : Int))) := by
        unfold gS
        rw [if_neg (by dsimp only; exact fun q => hb (Int.ofNat.inj q)), fmod_nat]
      unfold iterF
      rw [s1]
      dsimp only
      have e1 : Nat.gcd a b = Nat.gcd (a % b) b := by rw [Nat.gcd_comm a b, Nat.gcd_rec]
      by_cases hr : a % b = 0
      · rw [hr] at e1 ⊢
        rw [e1]
        simp [iterF, gS]
      · rw [show 2 * m + 2 = (2 * m + 1) + 1 from by exact ar228]
        have s2 : gS ((b : Int), ((a % b : Nat) : Int)) = some (some (((a % b : Nat) : Int), ((b % (a % b) : Nat) : Int))) := by
          unfold gS
          rw [if_neg (by dsimp only; exact fun q => hr (Int.ofNat.inj q)), fmod_nat]
        unfold iterF
        rw [s2]
        dsimp only
        have l1 : a % b < b := Nat.mod_lt _ (by exact Nat.pos_of_ne_zero hb)
        have l2 : b % (a % b) < a % b := Nat.mod_lt _ (by exact Nat.pos_of_ne_zero hr)
        have l3 : b % (a % b) + a % b ≤ b := by
          have := Nat.div_add_mod b (a % b)
          have h1 : 1 ≤ b / (a % b) := (Nat.one_le_div_iff (by exact Nat.pos_of_ne_zero hr)).mpr (by exact Nat.le_of_lt l1)
          have h2 : a % b * 1 ≤ a % b * (b / (a % b)) := Nat.mul_le_mul_left _ h1
          exact ar232 this h2
        have hp : 2 ^ (m + 1) = 2 * 2 ^ m := by rw [Nat.pow_succ]; exact ar233
        rw [gcd_iter m _ _ (by exact ar235 h l2 l3 hp)]
        have e2 : Nat.gcd (a % b) b = Nat.gcd (a % b) (b % (a % b)) := by rw [Nat.gcd_rec (a % b) b, Nat.gcd_comm]
        rw [e1, e2]
theorem iterF_more {α : Type} {step : α → Option (Option α)} : ∀ {k j : Nat} {a r : α}, iterF step k a = some r → iterF step (k + j) a = some r
  | 0, _, _, _, h => by cases h
  | k + 1, j, a, r, h => by
    rw [show k + 1 + j = (k + j) + 1 from by exact ar220]
    unfold iterF at h ⊢
    split at h
    · first | exact no_some h | cases h
    · exact h
    · exact iterF_more h
noncomputable abbrev big48 : Nat := 281474976710656
theorem gcdF_nat {a b : Nat} (h : b ≤ big48) : gcdF 100 (absI a, absI b) = some ((Nat.gcd a b : Nat) : Int) := by
  have e1 : absI (a : Int) = a := by unfold absI; rw [if_neg (by exact ar1)]
  have e2 : absI (b : Int) = b := by unfold absI; rw [if_neg (by exact ar1)]
  have h : b ≤ 281474976710656 := h
  have := iterF_more (j := 1) (gcd_iter 49 a b (by exact ar223 h))
  unfold gcdF
  rw [e1, e2]
  rw [show (iterF (fun (s : Q2) => if s.2 = 0 then some none else some (some (s.2, s.1.fmod s.2))) 100 ((a : Int), (b : Int))) = iterF gS 100 ((a : Int), (b : Int)) from rfl, this]
theorem ratL_nat {t b : Nat} (ht : t ≤ big59) (hb0 : 0 < b) (hb : b ≤ big48) : ratL t b = some (((t / Nat.gcd t b : Nat) : Int), ((b / Nat.gcd t b : Nat) : Int)) := by
  have hb' : b ≤ 281474976710656 := hb
  have sb : sm (b : Int) := sm_nat (by show b ≤ 576460752303423488; exact ar60 hb')
  have hg : Nat.gcd t b ≤ b := Nat.le_of_dvd hb0 (Nat.gcd_dvd_right t b)
  have hg0 : 0 < Nat.gcd t b := Nat.gcd_pos_of_pos_right t hb0
  unfold ratL
  rw [if_pos ⟨by exact Int.natCast_pos.mpr hb0, sm_nat ht, sb⟩, gcdF_nat hb]
  dsimp only
  rw [if_pos ⟨by exact Int.natCast_ne_zero_iff_pos.mpr hg0, sm_nat (by show Nat.gcd t b ≤ 576460752303423488; exact ar226 hb' hg)⟩, fdiv_nat, fdiv_nat]
theorem div_E {c cb : Nat} (hc : c ≤ big59) (h0 : 0 < cb) (hb : cb ≤ big48) (hd : c % cb = 0) : rdivL (cE c) (cE cb) = some (cE (c / cb)) := by
  have hb' : cb ≤ 281474976710656 := hb
  unfold rdivL
  rw [if_pos ⟨sm_nat hc, sm_one, sm_nat (by show cb ≤ 576460752303423488; exact ar60 hb'), sm_one⟩]
  have e : ratL ((cE c).1 * (cE cb).2) ((cE c).2 * (cE cb).1) = ratL (c : Int) (cb : Int) := by simp [cE]
  rw [e, ratL_nat hc h0 hb]
  have hg : Nat.gcd c cb = cb := by
    rw [Nat.gcd_comm]
    exact Nat.gcd_eq_left (Nat.dvd_of_mod_eq_zero hd)
  rw [hg, Nat.div_self h0]
  rfl
/-- the leading term -/
noncomputable def flead {α : Type} (p : FP) : Nat → Nat → (Nat → Nat → Option α) → Option α := FP.rec (motive := fun _ => Nat → Nat → (Nat → Nat → Option α) → Option α) (fun k c f => f k c) (fun k c _ ih k0 c0 f => Bool.rec (ih k c f) (ih k0 c0 f) (Nat.ble k k0)) p
theorem flead_c {α : Type} {k c k0 c0 : Nat} {p : FP} {f : Nat → Nat → Option α} : flead (.c k c p) k0 c0 f = Bool.rec (flead p k c f) (flead p k0 c0 f) (Nat.ble k k0) := rfl
theorem lex_E {a b : Nat} : lexLt (kL (kE a)) (kL (kE b)) = true ↔ a < b := by
  have e : lexLt (kL (kE a)) (kL (kE b)) = if (((a / 32 : Nat) : Int) = ((b / 32 : Nat) : Int)) then (if (((a % 32 : Nat) : Int) = ((b % 32 : Nat) : Int)) then false else decide (((a % 32 : Nat) : Int) < ((b % 32 : Nat) : Int))) else decide (((a / 32 : Nat) : Int) < ((b / 32 : Nat) : Int)) := rfl
  rw [e]
  by_cases h1 : (((a / 32 : Nat) : Int) = ((b / 32 : Nat) : Int))
  · rw [if_pos h1]
    by_cases h2 : (((a % 32 : Nat) : Int) = ((b % 32 : Nat) : Int))
    · rw [if_pos h2]
      simp
      exact ar225 h1 h2
    · rw [if_neg h2, decide_eq_true_iff]
      exact ar227 h1
  · rw [if_neg h1, decide_eq_true_iff]
    exact ar229 h1
theorem flead_part {α : Type} {f : Nat → Nat → Option α} {r : α} : ∀ {p : FP} {k0 c0 : Nat}, flead p k0 c0 f = some r →
    ∃ k c, f k c = some r ∧ foldF leadStep (some (kE k0)) (keys (E p)) = some (some (kE k)) ∧ ((k = k0 ∧ c = c0) ∨ (kE k, cE c) ∈ E p)
  | .n, k0, c0, h => ⟨k0, c0, h, rfl, .inl ⟨rfl, rfl⟩⟩
  | .c k1 c1 p, k0, c0, h => by
    rw [flead_c] at h
    have hs : leadStep (some (kE k0)) (kE k1) = if lexLt (kL (kE k0)) (kL (kE k1)) = true then some (some (kE k1)) else some (some (kE k0)) := rfl
    cases e : Nat.ble k1 k0 with
    | false =>
      rw [e] at h
      have hlt : k0 < k1 := by
        refine Nat.lt_of_not_le fun q => ?_
        rw [Nat.ble_eq_true_of_le q] at e
        cases e
      obtain ⟨k, c, a, b, d⟩ := flead_part (p := p) h
      refine ⟨k, c, a, ?_, ?_⟩
      · show foldF leadStep (some (kE k0)) (kE k1 :: keys (E p)) = _
        rw [foldF, hs, if_pos (lex_E.mpr hlt)]
        exact b
      · rcases d with ⟨rfl, rfl⟩ | d
        · exact .inr List.mem_cons_self
        · exact .inr (List.mem_cons_of_mem _ d)
    | true =>
      rw [e] at h
      have hle : k1 ≤ k0 := Nat.le_of_ble_eq_true e
      obtain ⟨k, c, a, b, d⟩ := flead_part (p := p) h
      refine ⟨k, c, a, ?_, ?_⟩
      · show foldF leadStep (some (kE k0)) (kE k1 :: keys (E p)) = _
        rw [foldF, hs, if_neg (fun q => by have := lex_E.mp q; omega)]
        exact b
      · rcases d with d | d
        · exact .inl d
        · exact .inr (List.mem_cons_of_mem _ d)
theorem flead_E {α : Type} {f : Nat → Nat → Option α} {r : α} {K : Nat → Prop} {p : FP} {k0 c0 : Nat} (hK : ∀ k, K k → k < 793) (g : Gd K (.c k0 c0 p)) (h : flead p k0 c0 f = some r) :
    ∃ k c, f k c = some r ∧ leadL (E (.c k0 c0 p)) = some (kE k, cE c) ∧ K k ∧ 0 < c ∧ c ≤ big59 := by
  obtain ⟨k, c, a, b, d⟩ := flead_part h
  have hm : (kE k, cE c) ∈ E (.c k0 c0 p) := by
    rcases d with ⟨rfl, rfl⟩ | d
    · exact List.mem_cons_self
    · exact List.mem_cons_of_mem _ d
  have hc : ∀ {p : FP}, Gd K p → (kE k, cE c) ∈ E p → K k ∧ 0 < c ∧ c ≤ big59 := by
    intro p
    induction p with
    | n => intro _ h; cases h
    | c k1 c1 p ih =>
      intro g h
      rcases List.mem_cons.mp h with q | h
      · have q1 := kE_inj.mp (congrArg Prod.fst q)
        have q2 : ((c : Int), (1 : Int)) = ((c1 : Int), (1 : Int)) := congrArg Prod.snd q
        have q2 := congrArg Prod.fst q2
        dsimp only at q1 q2
        subst q1
        have : c = c1 := by exact Int.ofNat.inj q2
        subst this
        exact ⟨g.1.2.1, g.1.2.2.1, g.1.2.2.2⟩
      · exact ih g.2 h
  refine ⟨k, c, a, ?_, hc g hm⟩
  have hl := g.len hK
  unfold leadL
  rw [if_pos (by unfold lim; exact ar13 hl)]
  rw [show foldF leadStep none (keys (E (.c k0 c0 p))) = foldF leadStep (some (kE k0)) (keys (E p)) from rfl, b]
  dsimp only
  rw [get_mem g.keys_nodup _ hm]
end Mine
namespace Mine
open PySem PyProof.Rows
/-- one turn of the division, with the lead (k, c) -/
noncomputable def fturn (B : FP) (kb cb : Nat) (ih : FP → FP → Option FP) (l q : FP) (k c : Nat) : Option FP :=
  Bool.rec none (Bool.rec none (Bool.rec none (forceN (Nat.sub k kb) fun s => forceN (Nat.div c cb) fun v => Option.rec none (fun l => forceP l fun l => Option.rec none (fun q => ih l q) (fadd s v q)) (fsubRow s v B l)) (Nat.beq (Nat.mod c cb) 0)) (Nat.ble (Nat.mod kb 32) (Nat.mod k 32))) (Nat.ble kb k)
noncomputable def fdivide (B : FP) (kb cb : Nat) (n : Nat) : FP → FP → Option FP := Nat.rec (motive := fun _ => FP → FP → Option FP) (fun _ _ => none) (fun _ ih l q => FP.rec (some q) (fun k0 c0 r _ => flead r k0 c0 fun k c => fturn B kb cb ih (.c k0 c0 r) q k c) l) n
theorem fdivide_n {B q : FP} {kb cb n : Nat} : fdivide B kb cb (n + 1) .n q = some q := rfl
theorem fdivide_c {B q r : FP} {kb cb n k0 c0 : Nat} : fdivide B kb cb (n + 1) (.c k0 c0 r) q = flead r k0 c0 fun k c => fturn B kb cb (fdivide B kb cb n) (.c k0 c0 r) q k c := rfl
theorem fturn_inv {B l q r : FP} {kb cb k c : Nat} {ih : FP → FP → Option FP} (h : fturn B kb cb ih l q k c = some r) :
    kb ≤ k ∧ kb % 32 ≤ k % 32 ∧ c % cb = 0 ∧ ∃ l' q', fsubRow (k - kb) (c / cb) B l = some l' ∧ fadd (k - kb) (c / cb) q = some q' ∧ ih l' q' = some r := by
  obtain ⟨h1, h⟩ := b_inv h
  obtain ⟨h2, h⟩ := b_inv h
  obtain ⟨h3, h⟩ := b_inv h
  rw [forceN_eq, forceN_eq] at h
  obtain ⟨l', h4, h⟩ := o_inv h
  rw [forceP_eq] at h
  obtain ⟨q', h5, h⟩ := o_inv h
  exact ⟨Nat.le_of_ble_eq_true h1, Nat.le_of_ble_eq_true h2, Nat.eq_of_beq_eq_true h3, l', q', h4, h5, h⟩
theorem pquot_E {k kb : Nat} (h1 : kb ≤ k) (h2 : kb % 32 ≤ k % 32) : pquot (kE k) (kE kb) = kE (k - kb) := by
  simp only [pquot, kE, Prod.mk.injEq]
  exact ar231 h1 h2
theorem E_nil {p : FP} : (E p).isEmpty = true ↔ p = .n := by cases p <;> simp [E]
theorem fdivide_E {B : FP} {kb cb : Nat} (gB : Gd Kg B) (hcb : 0 < cb) (hcb2 : cb ≤ big48) : ∀ {n w : Nat} {l q r : FP}, Gd Kg l → Gd Kg q → fdivide B kb cb n l q = some r → w + 397 * n ≤ 400000 →
    Gd Kg r ∧ ∃ w' : Int, iterF (divStep (kE kb) (cE cb) (E B)) n (E l, E q, (w : Int)) = some ([], E r, w')
  | 0, _, _, _, _, _, _, h, _ => by cases h
  | n + 1, w, .n, q, r, gl, gq, h, hw => by
    rw [fdivide_n] at h
    cases h
    exact ⟨gq, w, rfl⟩
  | n + 1, w, .c k0 c0 l, q, r, gl, gq, h, hw => by
    rw [fdivide_c] at h
    obtain ⟨k, c, h, hlead, hk, hc0, hc⟩ := flead_E (fun _ h => Nat.lt_trans h.lt (by decide)) gl h
    obtain ⟨h1, h2, h3, l', q', h4, h5, h6⟩ := fturn_inv h
    obtain ⟨gl', hm, hsub⟩ := subL_E gB gl h4
    have hs : Kg (k - kb) := by
      have := hk.1; have := hk.2
      exact ⟨by omega, by exact ar236 this⟩
    have hdvd : cb ∣ c := Nat.dvd_of_mod_eq_zero h3
    have hv : 0 < c / cb := Nat.div_pos (Nat.le_of_dvd hc0 hdvd) hcb
    have gq' := fadd_Gd hs hv gq h5
    have hadd := fadd_E (fun _ h => Nat.lt_trans h.lt (by decide)) gq hv h5
    have hlen := gl.len fun _ h => h.lt
    have hc' : c ≤ 576460752303423488 := hc
    have hv2 : c / cb ≤ big59 := Nat.le_trans (Nat.div_le_self c cb) hc
    have hsh := shiftL_E (s := k - kb) (fun _ h => Nat.lt_trans h.lt (by decide)) gB (fun a ha => by have := ha.1; have := hs.1; omega) hv hv2 hm
    obtain ⟨i1, w', i2⟩ := fdivide_E gB hcb hcb2 (w := w + (E (.c k0 c0 l)).length) gl' gq' h6 (by exact ar238 hw hlen)
    refine ⟨i1, w', ?_⟩
    unfold iterF
    have hst : divStep (kE kb) (cE cb) (E B) (E (.c k0 c0 l), E q, (w : Int)) = some (some (E l', E q', ((w + (E (.c k0 c0 l)).length : Nat) : Int))) := by
      unfold divStep
      dsimp only
      rw [if_pos (by unfold lim; exact ar0 hlen), if_neg (fun q => by cases E_nil.mp q), hlead]
      dsimp only
      rw [if_pos ⟨⟨by exact ar239 hw hlen, by
        have e1 : absI (cE c).1 = (c : Int) := by show absI (c : Int) = c; unfold absI; rw [if_neg (by exact ar1)]
        rw [e1]
        show mx (c : Int) 1 < 2 ^ 64
        unfold mx
        split <;> (first | exact ar241 hc' | exact Int.natCast_nonneg _)⟩, ⟨by show ((k / 32 : Nat) : Int) ≤ 20000; have := hk.2; exact ar242 this, by show ((k % 32 : Nat) : Int) ≤ 20000; exact ar244⟩, by show ((kb / 32 : Nat) : Int) ≤ ((k / 32 : Nat) : Int); exact ar252 h1, by show ((kb % 32 : Nat) : Int) ≤ ((k % 32 : Nat) : Int); exact ar257 h2⟩]
      rw [div_E hc hcb hcb2 h3]
      dsimp only
      rw [pquot_E h1 h2, hadd]
      dsimp only
      rw [hsh]
      dsimp only
      rw [hsub]
      dsimp only
      rw [Int.natCast_add]
    rw [hst]
    exact i2
noncomputable def fexact (F B : FP) : Option FP := FP.rec none (fun k0 c0 r _ => flead r k0 c0 fun kb cb => Bool.rec none (fdivide B kb cb 1000 F .n) (Nat.ble cb big48)) B
theorem fexact_c {F r : FP} {k0 c0 : Nat} : fexact F (.c k0 c0 r) = flead r k0 c0 fun kb cb => Bool.rec none (fdivide (.c k0 c0 r) kb cb 1000 F .n) (Nat.ble cb big48) := rfl
theorem fexact_E {F B r : FP} (gF : Gd Kg F) (gB : Gd Kg B) (h : fexact F B = some r) : Gd Kg r ∧ exactL (E F) (E B) = some (E r) := by
  cases B with
  | n => cases h
  | c k0 c0 B =>
    rw [fexact_c] at h
    obtain ⟨k, c, h, hlead, hk, hc0, hc⟩ := flead_E (fun _ h => Nat.lt_trans h.lt (by decide)) gB h
    obtain ⟨hb, h⟩ := b_inv h
    obtain ⟨i1, w', i2⟩ := fdivide_E gB hc0 (Nat.le_of_ble_eq_true hb) (w := 0) (q := .n) gF trivial h (by decide)
    refine ⟨i1, ?_⟩
    have l1 := gF.len fun _ h => h.lt
    have l2 := gB.len fun _ h => h.lt
    unfold exactL
    rw [if_pos ⟨by unfold lim; exact ar0 l2, rfl⟩]
    unfold divL
    rw [if_pos ⟨by exact ar230 l1, by unfold lim; exact ar0 l2, apart_E gF⟩, hlead]
    dsimp only
    rw [show iterF (divStep (kE k) (cE c) (E (.c k0 c0 B))) 1000 (E F, [], 0) = some ([], E r, w') from i2]
end Mine
namespace Mine
open PySem PyProof.Rows
noncomputable abbrev FR := FP × Q2
noncomputable def R (rows : List FR) : List (PL × Q2) := rows.map fun r => (E r.1, r.2)
noncomputable def GR (rows : List FR) : Prop := ∀ r ∈ rows, Gd Kg r.1
theorem R_len {rows : List FR} : (R rows).length = rows.length := by simp [R]
theorem ixL_R {rows : List FR} {i : Nat} {r : FR} {j : Int} (h : rows[i]? = some r) (hj : j = (i : Int)) (hi : i < 1000) : ixL (R rows) j = some (E r.1, r.2) := by
  subst hj
  unfold ixL
  rw [if_pos ⟨by exact Int.natCast_nonneg _, by exact ar63 hi⟩, Int.toNat_natCast]
  simp [R, h]
noncomputable def fpair (a b : FR) : Option FR := Option.rec none (fun r => some (r, (a.2.1 + b.2.1, a.2.2 + b.2.2))) (fmul a.1 b.1 .n)
theorem fpair_E {rows : List FR} {i j : Nat} {i' j' : Int} {a b r : FR} (gr : GR rows) (ha : rows[i]? = some a) (hb : rows[j]? = some b) (hi : i < 1000) (hj : j < 1000) (ei : i' = (i : Int)) (ej : j' = (j : Int)) (h : fpair a b = some r) :
    Gd Kw r.1 ∧ pairL (R rows) i' j' = some (E r.1, r.2) := by
  obtain ⟨p, h1, h2⟩ := o_inv h
  cases h2
  obtain ⟨i1, i2⟩ := fmul_E (gr a (List.mem_of_getElem? ha)) (gr b (List.mem_of_getElem? hb)) h1
  refine ⟨i1, ?_⟩
  unfold pairL
  rw [ixL_R ha ei hi, ixL_R hb ej hj]
  dsimp only
  rw [i2]
noncomputable def fgap (a b : Q2) : Option Nat := match a.1 - b.1, a.2 - b.2 with
  | .ofNat i, .ofNat j => (match Nat.ble j 7 with
    | true => some (Nat.add (Nat.mul i 32) j)
    | false => none)
  | _, _ => none
theorem fgap_E {a b : Q2} {g : Nat} (h : fgap a b = some g) : sub2 a b = kE g ∧ g % 32 ≤ 7 := by
  unfold fgap at h
  split at h
  · rename_i i j h1 h2
    split at h
    · rename_i hj
      cases h
      have hj : j ≤ 7 := Nat.le_of_ble_eq_true hj
      have e1 : Nat.add (Nat.mul i 32) j = i * 32 + j := rfl
      rw [e1]
      refine ⟨?_, by exact ar243 hj⟩
      unfold sub2 kE
      rw [h1, h2]
      have : (i * 32 + j) / 32 = i := by exact ar253 hj
      rw [this]
      have : (i * 32 + j) % 32 = j := by exact AM hj
      rw [this]
      rfl
    · first | exact no_some h | cases h
  · first | exact no_some h | cases h
noncomputable def hi2 (a b : Q2) : Q2 := (mx a.1 b.1, mx a.2 b.2)
noncomputable def fsum (n o : Nat) (s1 s2 z : FP) : Option FP := Bool.rec none (Bool.rec none (Option.rec none (fun t => forceP t fun t => Bool.rec (some t) (fexact t z) (Nat.ble o (Nat.sub n o))) (faddAll s2 s1)) (okB s2)) (okB s1)
noncomputable def fmix (n o al be : Nat) (l r z : FR) : Option FR := Option.rec none (fun g1 => Option.rec none (fun g2 => forceN g1 fun g1 => forceN g2 fun g2 => forceP (fshift g1 al l.1) fun s1 => forceP (fshift g2 be r.1) fun s2 =>
  Option.rec none (fun t => some (t, sub2 (hi2 l.2 r.2) z.2)) (fsum n o s1 s2 z.1)) (fgap (hi2 l.2 r.2) r.2)) (fgap (hi2 l.2 r.2) l.2)
noncomputable def fright (n o : Nat) (rows : List FR) : Option FR := match Nat.ble 4 o with
  | true => (match rows[Nat.add (Nat.sub n o) 2]?, rows[Nat.sub n 2]? with
    | some c, some d => fpair c d
    | _, _ => none)
  | false => some (.c 0 1 .n, (0, 0))
noncomputable def frow (n o al be : Nat) (rows : List FR) : Option FR := match rows[Nat.add (Nat.sub n o) 1]?, rows[Nat.sub n 1]?, rows[Nat.sub n o]? with
  | some a, some b, some z => Option.rec none (fun l => Option.rec none (fun r => fmix n o al be l r z) (fright n o rows)) (fpair a b)
  | _, _, _ => none
theorem fright_E {n o : Nat} {rows : List FR} {r : FR} (gr : GR rows) (hn : rows.length = n) (ho : o ≤ n) (ho2 : 2 ≤ o) (hn2 : n < 900) (h : fright n o rows = some r) : Gd Kw r.1 ∧ nextR (R rows) (o : Int) = some (E r.1, r.2) := by
  unfold fright at h
  unfold nextR
  split at h
  · rename_i h4
    have h4 : 4 ≤ o := Nat.le_of_ble_eq_true h4
    split at h
    · rename_i c d hc hd
      rw [if_pos (by exact Int.lt_of_toNat_lt h4)]
      have e1 : Nat.add (Nat.sub n o) 2 = n - o + 2 := rfl
      have e2 : Nat.sub n 2 = n - 2 := rfl
      rw [e1] at hc
      rw [e2] at hd
      exact fpair_E gr hc hd (by exact ar246 hn2) (by exact ar251 hn2) (by rw [R_len]; exact ar254 hn ho) (by rw [R_len]; exact ar258 hn ho ho2) h
    · first | exact no_some h | cases h
  · rename_i h4
    have h4 : ¬ 4 ≤ o := fun q => by rw [Nat.ble_eq_true_of_le q] at h4; cases h4
    cases h
    rw [if_neg (by exact ar66 h4)]
    exact ⟨⟨⟨by simp [ks], ⟨by decide, by decide⟩, by decide, by decide⟩, trivial⟩, rfl⟩
theorem ob_inv {α : Type} {b : Bool} {X Y : Option α} {r : α} (h : (Bool.rec X Y b : Option α) = some r) : (b = true ∧ Y = some r) ∨ (b = false ∧ X = some r) := by
  cases b with
  | false => exact .inr ⟨rfl, h⟩
  | true => exact .inl ⟨rfl, h⟩
theorem frow_E {n o al be : Nat} {rows : List FR} {r : FR} (gr : GR rows) (hn : rows.length = n) (ho : o ≤ n) (ho2 : 2 ≤ o) (hn2 : n < 900) (hal : 0 < al) (hal2 : al ≤ big59) (hbe : 0 < be) (hbe2 : be ≤ big59) (h : frow n o al be rows = some r) :
    Gd Kg r.1 ∧ nextL (R rows) (o : Int) (al : Int) (be : Int) = some (E r.1, r.2) := by
  unfold frow at h
  split at h
  rotate_left
  · first | exact no_some h | cases h
  rename_i a b z ha hb hz
  have e1 : Nat.add (Nat.sub n o) 1 = n - o + 1 := rfl
  have e2 : Nat.sub n 1 = n - 1 := rfl
  have e3 : Nat.sub n o = n - o := rfl
  rw [e1] at ha
  rw [e2] at hb
  rw [e3] at hz
  obtain ⟨l, hl, h⟩ := o_inv h
  obtain ⟨r', hr, h⟩ := o_inv h
  obtain ⟨gl, hpl⟩ := fpair_E (i' := ((R rows).length : Int) - (o : Int) + 1) (j' := ((R rows).length : Int) - 1) gr ha hb (by exact ar249 hn2) (by exact ar255 hn2) (by rw [R_len]; exact ar260 hn ho) (by rw [R_len]; exact ar262 hn ho ho2) hl
  obtain ⟨grr, hpr⟩ := fright_E gr hn ho ho2 hn2 hr
  have hz' := ixL_R (j := ((R rows).length : Int) - (o : Int)) hz (by rw [R_len]; exact ar263 hn ho) (by exact ar264 hn2)
  have gz := gr z (List.mem_of_getElem? hz)
  obtain ⟨g1, hg1, h⟩ := o_inv h
  obtain ⟨g2, hg2, h⟩ := o_inv h
  rw [forceN_eq, forceN_eq, forceP_eq, forceP_eq] at h
  obtain ⟨t2, h0, h'⟩ := o_inv h
  cases h'
  clear h
  obtain ⟨k1, h⟩ := b_inv h0
  obtain ⟨k2, h⟩ := b_inv h
  obtain ⟨t, ht, h⟩ := o_inv h
  rw [forceP_eq] at h
  obtain ⟨q1, q2⟩ := fgap_E hg1
  obtain ⟨q3, q4⟩ := fgap_E hg2
  obtain ⟨gs1, hs1⟩ := shift_E gl q2 hal hal2 k1
  obtain ⟨gs2, hs2⟩ := shift_E grr q4 hbe hbe2 k2
  obtain ⟨gt, hadd⟩ := addL_E gs1 gs2 ht
  have fin : Gd Kg t2 ∧ (if (o : Int) ≤ ((R rows).length : Int) - (o : Int) then exactL (E t) (E z.1) else some (E t)) = some (E t2) := by
    rcases ob_inv h with ⟨hb, h⟩ | ⟨hb, h⟩
    · have hb : o ≤ n - o := Nat.le_of_ble_eq_true hb
      rw [if_pos (by rw [R_len]; exact ar267 hn hb)]
      exact fexact_E gt gz h
    · have hb : ¬ o ≤ n - o := fun q => by
        have : Nat.ble o (Nat.sub n o) = true := Nat.ble_eq_true_of_le q
        rw [this] at hb; cases hb
      cases h
      rw [if_neg (by rw [R_len]; exact ar268 hn hb)]
      exact ⟨gt, rfl⟩
  refine ⟨fin.1, ?_⟩
  unfold nextL
  rw [if_pos (by rw [R_len]; unfold lim; exact ar269 hn hn2), hpl, hpr, hz']
  dsimp only
  rw [show ((mx l.2.1 r'.2.1, mx l.2.2 r'.2.2) : Q2) = hi2 l.2 r'.2 from rfl, q1, q3]
  rw [show (((al : Int), (1 : Int)) : Q2) = cE al from rfl, show (((be : Int), (1 : Int)) : Q2) = cE be from rfl, hs1, hs2]
  dsimp only
  rw [hadd]
  dsimp only
  rw [fin.2]
/-- fair -/
noncomputable def has0 (p : FP) : Bool := FP.rec false (fun k _ _ ih => Bool.rec ih true (Nat.ble k 31)) p
noncomputable def has1 (p : FP) : Bool := FP.rec false (fun k _ _ ih => Bool.rec ih true (Nat.beq (Nat.mod k 32) 0)) p
theorem has0_E : ∀ {p : FP}, has0 p = true → (0 : Int) ∈ (keys (E p)).map (·.1)
  | .n, h => by cases h
  | .c k c p, h => by
    have h : (Bool.rec (has0 p) true (Nat.ble k 31) : Bool) = true := h
    show (0 : Int) ∈ ((k / 32 : Nat) : Int) :: (keys (E p)).map (·.1)
    cases e : Nat.ble k 31 with
    | true =>
      have : k ≤ 31 := Nat.le_of_ble_eq_true e
      have : ((k / 32 : Nat) : Int) = 0 := by exact ar245 this
      rw [this]
      exact List.mem_cons_self
    | false =>
      rw [e] at h
      exact List.mem_cons_of_mem _ (has0_E h)
theorem has1_E : ∀ {p : FP}, has1 p = true → (0 : Int) ∈ (keys (E p)).map (·.2)
  | .n, h => by cases h
  | .c k c p, h => by
    have h : (Bool.rec (has1 p) true (Nat.beq (Nat.mod k 32) 0) : Bool) = true := h
    show (0 : Int) ∈ ((k % 32 : Nat) : Int) :: (keys (E p)).map (·.2)
    cases e : Nat.beq (Nat.mod k 32) 0 with
    | true =>
      have : k % 32 = 0 := Nat.eq_of_beq_eq_true e
      rw [this]
      exact List.mem_cons_self
    | false =>
      rw [e] at h
      exact List.mem_cons_of_mem _ (has1_E h)
theorem minL_zero : ∀ {l : List Int} {x : Int}, 0 ≤ x → (∀ y ∈ l, 0 ≤ y) → (0 : Int) ∈ x :: l → minL x l = 0
  | [], x, _, _, h => by
    rcases List.mem_cons.mp h with h | h
    · exact h.symm
    · first | exact no_some h | cases h
  | y :: l, x, hx, hl, h => by
    have hy := hl y List.mem_cons_self
    show minL (if y < x then y else x) l = 0
    refine minL_zero (by split <;> assumption) (fun z hz => hl z (List.mem_cons_of_mem _ hz)) ?_
    rcases List.mem_cons.mp h with h | h
    · rw [if_neg (by exact ar247 hy h)]
      exact h ▸ List.mem_cons_self
    · rcases List.mem_cons.mp h with h | h
      · by_cases q : y < x
        · rw [if_pos q]
          exact h ▸ List.mem_cons_self
        · have : x = 0 := by exact ar248 hx h q
          rw [if_neg q, this]
          exact List.mem_cons_self
      · exact List.mem_cons_of_mem _ h
theorem minOK_of {l : List Int} (hl : ∀ y ∈ l, 0 ≤ y) (h : (0 : Int) ∈ l) : minOK l = true := by
  cases l with
  | nil => cases h
  | cons x l =>
    show (minL x l == 0) = true
    rw [minL_zero (hl x List.mem_cons_self) (fun y hy => hl y (List.mem_cons_of_mem _ hy)) h]
    rfl
theorem fair_E {p : FP} (g : Gd Kg p) (h0 : has0 p = true) (h1 : has1 p = true) : fairL (E p) = true := by
  have hl := g.len fun _ h => h.lt
  have m0 := has0_E h0
  have m1 := has1_E h1
  have hne : (E p).isEmpty = false := by
    cases p with
    | n => cases h0
    | c _ _ _ => rfl
  have nn : ∀ k ∈ keys (E p), 0 ≤ k.1 ∧ 0 ≤ k.2 := fun k hk => by
    rw [keys_E] at hk
    obtain ⟨a, _, rfl⟩ := List.mem_map.mp hk
    exact ⟨Int.natCast_nonneg _, Int.natCast_nonneg _⟩
  unfold fairL
  rw [decide_eq_true (by exact ar51 hl : (E p).length < 9000), hne, minOK_of (fun y hy => by
    obtain ⟨k, hk, rfl⟩ := List.mem_map.mp hy
    exact (nn k hk).1) m0, minOK_of (fun y hy => by
    obtain ⟨k, hk, rfl⟩ := List.mem_map.mp hy
    exact (nn k hk).2) m1]
  have : ((keys (E p)).all fun k => match plGet (E p) k with
    | some c => c.2 == 1 && decide (0 < c.1)
    | none => false) = true := by
    refine List.all_eq_true.mpr fun k hk => ?_
    obtain ⟨e, he, rfl⟩ := List.mem_map.mp hk
    rw [get_mem g.keys_nodup e he]
    have : ∀ {p : FP}, Gd Kg p → ∀ e ∈ E p, e.2.2 = 1 ∧ 0 < e.2.1 := by
      intro p
      induction p with
      | n => intro _ e h; cases h
      | c k c p ih =>
        intro g e h
        rcases List.mem_cons.mp h with rfl | h
        · have := g.1.2.2.1
          exact ⟨rfl, by show (0 : Int) < (c : Int); exact Int.natCast_pos.mpr this⟩
        · exact ih g.2 e h
    obtain ⟨a, b⟩ := this g e he
    dsimp only
    rw [a, decide_eq_true b]
    rfl
  simp only [Bool.and_true, Bool.true_and, Bool.not_false]
  exact this
/-- the rows -/
noncomputable def frun (o al be : Nat) (k : Nat) : Nat → List FR → Option (List FR) := Nat.rec (motive := fun _ => Nat → List FR → Option (List FR)) (fun _ rows => some rows) (fun _ ih n rows => Option.rec none (fun r => forceP r.1 fun p => Bool.rec none (Bool.rec none (ih (Nat.succ n) (rows ++ [(p, r.2)])) (has1 p)) (has0 p)) (frow n o al be rows)) k
theorem frun_s {o al be k n : Nat} {rows : List FR} : frun o al be (k + 1) n rows = Option.rec none (fun r => forceP r.1 fun p => Bool.rec none (Bool.rec none (frun o al be k (n + 1) (rows ++ [(p, r.2)])) (has1 p)) (has0 p)) (frow n o al be rows) := rfl
theorem frun_E {o al be : Nat} (ho2 : 2 ≤ o) (hal : 0 < al) (hal2 : al ≤ big59) (hbe : 0 < be) (hbe2 : be ≤ big59) : ∀ {k n : Nat} {rows rows' : List FR}, GR rows → rows.length = n → o ≤ n → n + k < 900 → frun o al be k n rows = some rows' →
    GR rows' ∧ rows'.length = n + k ∧ polyRun (o : Int) (al : Int) (be : Int) k (R rows) = some (R rows')
  | 0, n, rows, rows', gr, hn, _, _, h => by cases h; exact ⟨gr, hn, rfl⟩
  | k + 1, n, rows, rows', gr, hn, ho, hk, h => by
    rw [frun_s] at h
    obtain ⟨r, h1, h⟩ := o_inv h
    rw [forceP_eq] at h
    obtain ⟨f0, h⟩ := b_inv h
    obtain ⟨f1, h⟩ := b_inv h
    obtain ⟨g, e⟩ := frow_E gr hn ho ho2 (by exact Nat.lt_of_add_right_lt hk) hal hal2 hbe hbe2 h1
    have gr' : GR (rows ++ [(r.1, r.2)]) := fun x hx => by
      rcases List.mem_append.mp hx with hx | hx
      · exact gr x hx
      · rcases List.mem_cons.mp hx with rfl | hx
        · exact g
        · cases hx
    obtain ⟨a, b, c⟩ := frun_E ho2 hal hal2 hbe hbe2 gr' (by simp [hn]) (by exact Nat.le_succ_of_le ho) (by exact ar14 hk) h
    refine ⟨a, by exact ar256 b, ?_⟩
    unfold polyRun
    have : polyStep (o : Int) (al : Int) (be : Int) (R rows) = some (E r.1, r.2) := by
      unfold polyStep
      rw [e]
      dsimp only
      rw [if_pos (fair_E g f0 f1)]
    rw [this]
    dsimp only
    rw [show R rows ++ [(E r.1, r.2)] = R (rows ++ [(r.1, r.2)]) from by simp [R]]
    exact c
end Mine
namespace Mine
open PySem PyProof.Rows
noncomputable def rat (t b : Nat) (k : Nat → Nat → Bool) : Bool := forceN t fun t => forceN b fun b => Bool.rec false (Bool.rec false (forceN (Nat.gcd t b) fun g => forceN (Nat.div t g) fun t => forceN (Nat.div b g) fun b => k t b) (Nat.ble b big48)) (Nat.ble t big59)
noncomputable def VO (t b : Nat) : Prop := (0 < t ∧ t ≤ big59) ∧ 0 < b ∧ b ≤ big48
theorem VO.s1 {t b : Nat} (h : VO t b) : sm (t : Int) := sm_nat h.1.2
theorem VO.s2 {t b : Nat} (h : VO t b) : sm (b : Int) := sm_nat (Nat.le_trans h.2.2 (by decide))
theorem rat_E {t b : Nat} {k : Nat → Nat → Bool} (h : rat t b k = true) (ht : 0 < t) (hb : 0 < b) : t ≤ big59 ∧ ∃ t' b' : Nat, ratL (t : Int) (b : Int) = some ((t' : Int), (b' : Int)) ∧ VO t' b' ∧ k t' b' = true := by
  unfold rat at h
  rw [forceN_eq, forceN_eq] at h
  obtain ⟨h1, h⟩ := bb_inv h
  obtain ⟨h2, h⟩ := bb_inv h
  rw [forceN_eq, forceN_eq, forceN_eq] at h
  have h1 : t ≤ big59 := Nat.le_of_ble_eq_true h1
  have h2 : b ≤ big48 := Nat.le_of_ble_eq_true h2
  refine ⟨h1, _, _, ratL_nat h1 hb h2, ⟨⟨?_, ?_⟩, ?_, ?_⟩, h⟩
  · exact Nat.div_pos (Nat.le_of_dvd ht (Nat.gcd_dvd_left t b)) (Nat.gcd_pos_of_pos_right t hb)
  · exact Nat.le_trans (Nat.div_le_self _ _) h1
  · exact Nat.div_pos (Nat.le_of_dvd hb (Nat.gcd_dvd_right t b)) (Nat.gcd_pos_of_pos_right t hb)
  · exact Nat.le_trans (Nat.div_le_self _ _) h2
/-- the values, the latest first -/
noncomputable def VL : FP → List Q2
  | .n => []
  | .c a b r => VL r ++ [((a : Int), (b : Int))]
noncomputable def VG : FP → Prop
  | .n => True
  | .c a b r => VO a b ∧ VG r
noncomputable def nth (w : FP) : Nat → (Nat → Nat → Bool) → Bool := FP.rec (motive := fun _ => Nat → (Nat → Nat → Bool) → Bool) (fun _ _ => false) (fun a b _ ih i k => Nat.rec (k a b) (fun i _ => ih i k) i) w
theorem nth_E {k : Nat → Nat → Bool} : ∀ {w : FP} {i : Nat}, nth w i k = true → VG w → i < (VL w).length ∧ ∃ a b : Nat, (VL w)[(VL w).length - 1 - i]? = some ((a : Int), (b : Int)) ∧ VO a b ∧ k a b = true
  | .n, _, h, _ => by cases h
  | .c a b r, 0, h, g => by
    have hl : (VL (.c a b r)).length = (VL r).length + 1 := by simp [VL]
    refine ⟨by exact Nat.lt_of_sub_eq_succ hl, a, b, ?_, g.1, h⟩
    rw [hl]
    simp [VL]
  | .c a b r, i + 1, h, g => by
    have h' : nth r i k = true := h
    have hl : (VL (.c a b r)).length = (VL r).length + 1 := by simp [VL]
    obtain ⟨h1, a', b', h2, h3, h4⟩ := nth_E h' g.2
    refine ⟨by exact ar273 hl h1, a', b', ?_, h3, h4⟩
    rw [hl, show (VL r).length + 1 - 1 - (i + 1) = (VL r).length - 1 - i from by exact ar277]
    show (VL r ++ [((a : Int), (b : Int))])[(VL r).length - 1 - i]? = _
    rw [List.getElem?_append_left (by exact Nat.sub_one_sub_lt_of_lt h1)]
    exact h2
theorem ixL_of {α : Type} {l : List α} {i : Nat} {v : α} {j : Int} (h : l[i]? = some v) (hj : j = (i : Int)) (hi : i < 1000) : ixL l j = some v := by
  subst hj
  unfold ixL
  rw [if_pos ⟨by exact Int.natCast_nonneg _, by exact ar63 hi⟩, Int.toNat_natCast]
  exact h
theorem ixA {α : Type} {l : List α} {o : Nat} {v : α} (h : l[l.length - 1 - Nat.sub o 2]? = some v) (ho : 2 ≤ o) (lo : o - 1 < l.length) (hl : l.length < 900) : ixL l ((l.length : Int) - (o : Int) + 1) = some v :=
  ixL_of h (by rw [show l.length - 1 - Nat.sub o 2 = l.length - o + 1 from (by show l.length - 1 - (o - 2) = _; exact ar279 ho lo)]; exact ar283 lo) (by show l.length - 1 - (o - 2) < 1000; exact ar285 hl)
theorem ixB {α : Type} {l : List α} {v : α} (h : l[l.length - 1 - 0]? = some v) (lo : 0 < l.length) (hl : l.length < 900) : ixL l ((l.length : Int) - 1) = some v := ixL_of h (by exact ar271 lo) (by exact ar275 hl)
theorem ixC {α : Type} {l : List α} {o : Nat} {v : α} (h : l[l.length - 1 - Nat.sub o 1]? = some v) (ho : 2 ≤ o) (lo : o - 1 < l.length) (hl : l.length < 900) : ixL l ((l.length : Int) - (o : Int)) = some v :=
  ixL_of h (by rw [show l.length - 1 - Nat.sub o 1 = l.length - o from (by show l.length - 1 - (o - 1) = _; exact ar280 ho)]; exact ar286 lo) (by show l.length - 1 - (o - 1) < 1000; exact ar287 hl)
theorem ixD {α : Type} {l : List α} {o : Nat} {v : α} (h : l[l.length - 1 - Nat.sub o 3]? = some v) (ho : 4 ≤ o) (lo : o ≤ l.length) (hl : l.length < 900) : ixL l ((l.length : Int) - (o : Int) + 2) = some v :=
  ixL_of h (by rw [show l.length - 1 - Nat.sub o 3 = l.length - o + 2 from (by show l.length - 1 - (o - 3) = _; exact ar276 ho lo)]; exact ar278 lo) (by show l.length - 1 - (o - 3) < 1000; exact ar281 hl)
theorem ixE {α : Type} {l : List α} {v : α} (h : l[l.length - 1 - 1]? = some v) (lo : 4 ≤ l.length) (hl : l.length < 900) : ixL l ((l.length : Int) - 2) = some v := ixL_of h (by exact ar272 lo) (by exact ar274 hl)
theorem rmul_V {a1 a2 b1 b2 : Nat} (ha : VO a1 a2) (hb : VO b1 b2) : rmulL ((a1 : Int), (a2 : Int)) ((b1 : Int), (b2 : Int)) = ratL ((a1 * b1 : Nat) : Int) ((a2 * b2 : Nat) : Int) := by
  unfold rmulL
  rw [if_pos ⟨ha.s1, ha.s2, hb.s1, hb.s2⟩]
  simp
theorem radd_V {a1 a2 b1 b2 : Nat} (ha : VO a1 a2) (hb : VO b1 b2) : raddL ((a1 : Int), (a2 : Int)) ((b1 : Int), (b2 : Int)) = ratL ((a1 * b2 + b1 * a2 : Nat) : Int) ((a2 * b2 : Nat) : Int) := by
  unfold raddL
  rw [if_pos ⟨ha.s1, ha.s2, hb.s1, hb.s2⟩]
  simp
theorem rdiv_V {a1 a2 b1 b2 : Nat} (ha : VO a1 a2) (hb : VO b1 b2) : rdivL ((a1 : Int), (a2 : Int)) ((b1 : Int), (b2 : Int)) = ratL ((a1 * b2 : Nat) : Int) ((a2 * b1 : Nat) : Int) := by
  unfold rdivL
  rw [if_pos ⟨ha.s1, ha.s2, hb.s1, hb.s2⟩]
  simp
noncomputable def fvr (o : Nat) (w : FP) (k : Nat → Nat → Bool) : Bool := Bool.rec (k 1 1) (nth w (Nat.sub o 3) fun c1 c2 => nth w 1 fun d1 d2 => rat (Nat.mul c1 d1) (Nat.mul c2 d2) k) (Nat.ble 4 o)
noncomputable def fval (o al be : Nat) (w : FP) (k : Nat → Nat → Bool) : Bool := nth w (Nat.sub o 2) fun a1 a2 => nth w 0 fun b1 b2 => nth w (Nat.sub o 1) fun z1 z2 =>
  rat (Nat.mul a1 b1) (Nat.mul a2 b2) fun m1 m2 => rat (Nat.mul al m1) m2 fun l1 l2 => fvr o w fun r1 r2 =>
  rat (Nat.mul be r1) r2 fun t1 t2 => rat (Nat.add (Nat.mul l1 t2) (Nat.mul t1 l2)) (Nat.mul l2 t2) fun s1 s2 => rat (Nat.mul s1 z2) (Nat.mul s2 z1) k
theorem bx_inv {b X Y : Bool} (h : (Bool.rec X Y b : Bool) = true) : (b = true ∧ Y = true) ∨ (b = false ∧ X = true) := by
  cases b with
  | false => exact .inr ⟨rfl, h⟩
  | true => exact .inl ⟨rfl, h⟩
theorem fvr_E {o : Nat} {w : FP} {k : Nat → Nat → Bool} (g : VG w) (hl : (VL w).length < 900) (ho : o ≤ (VL w).length) (h : fvr o w k = true) : ∃ r1 r2 : Nat, ratioR (VL w) (o : Int) = some ((r1 : Int), (r2 : Int)) ∧ VO r1 r2 ∧ k r1 r2 = true := by
  unfold ratioR
  rcases bx_inv h with ⟨h4, h⟩ | ⟨h4, h⟩
  · have h4 : 4 ≤ o := Nat.le_of_ble_eq_true h4
    obtain ⟨_, c1, c2, hc, gc, h⟩ := nth_E h g
    obtain ⟨_, d1, d2, hd, gd, h⟩ := nth_E h g
    obtain ⟨_, t1, t2, h1, h2, h3⟩ := rat_E h (Nat.mul_pos gc.1.1 gd.1.1) (Nat.mul_pos gc.2.1 gd.2.1)
    refine ⟨t1, t2, ?_, h2, h3⟩
    rw [if_pos (show (3 : Int) < (o : Int) by clear hc hd h1; exact Int.lt_of_toNat_lt h4), ixD hc h4 ho hl, ixE hd (Nat.le_trans h4 ho) hl]
    dsimp only
    rw [rmul_V gc gd]
    exact h1
  · have h4 : ¬ 4 ≤ o := fun q => by rw [Nat.ble_eq_true_of_le q] at h4; cases h4
    rw [if_neg (by exact ar66 h4)]
    exact ⟨1, 1, rfl, ⟨⟨by decide, by decide⟩, by decide, by decide⟩, h⟩
theorem fval_E {o al be : Nat} {w : FP} {k : Nat → Nat → Bool} (g : VG w) (hl : (VL w).length < 900) (ho2 : 2 ≤ o) (hal : VO al 1) (hbe : VO be 1) (h : fval o al be w k = true) :
    ∃ v1 v2 : Nat, ratioL (VL w) (o : Int) (al : Int) (be : Int) = some ((v1 : Int), (v2 : Int)) ∧ VO v1 v2 ∧ k v1 v2 = true := by
  obtain ⟨_, a1, a2, ha, ga, h⟩ := nth_E h g
  obtain ⟨_, b1, b2, hb, gb, h⟩ := nth_E h g
  obtain ⟨lo, z1, z2, hz, gz, h⟩ := nth_E h g
  have lo : o - 1 < (VL w).length := lo
  obtain ⟨_, m1, m2, hm, gm, h⟩ := rat_E h (Nat.mul_pos ga.1.1 gb.1.1) (Nat.mul_pos ga.2.1 gb.2.1)
  obtain ⟨_, l1, l2, hll, gl, h⟩ := rat_E h (Nat.mul_pos hal.1.1 gm.1.1) gm.2.1
  have lo' : o ≤ (VL w).length := Nat.le_of_pred_lt lo
  obtain ⟨r1, r2, hr, gr, h⟩ := fvr_E g hl lo' h
  obtain ⟨_, t1, t2, ht, gt, h⟩ := rat_E h (Nat.mul_pos hbe.1.1 gr.1.1) gr.2.1
  obtain ⟨_, s1, s2, hs, gs, h⟩ := rat_E h (Nat.add_pos_left (Nat.mul_pos gl.1.1 gt.2.1) _) (Nat.mul_pos gl.2.1 gt.2.1)
  obtain ⟨_, v1, v2, hv, gv, h⟩ := rat_E h (Nat.mul_pos gs.1.1 gz.2.1) (Nat.mul_pos gs.2.1 gz.1.1)
  refine ⟨v1, v2, ?_, gv, h⟩
  unfold ratioL
  rw [if_pos (Nat.lt_trans hl (show 900 < lim by decide)), ixA ha ho2 lo hl, ixB hb (Nat.lt_of_le_of_lt (Nat.zero_le _) lo) hl, ixC hz ho2 lo hl]
  dsimp only
  rw [rmul_V ga gb, show ratL ((a1 * b1 : Nat) : Int) ((a2 * b2 : Nat) : Int) = some ((m1 : Int), (m2 : Int)) from hm]
  dsimp only
  have q1 := rmul_V hal gm
  rw [Nat.one_mul] at q1
  rw [show rmulL ((al : Int), 1) ((m1 : Int), (m2 : Int)) = some ((l1 : Int), (l2 : Int)) from q1.trans hll]
  dsimp only
  rw [hr]
  dsimp only
  have q2 := rmul_V hbe gr
  rw [Nat.one_mul] at q2
  rw [show rmulL ((be : Int), 1) ((r1 : Int), (r2 : Int)) = some ((t1 : Int), (t2 : Int)) from q2.trans ht]
  dsimp only
  rw [radd_V gl gt, show ratL ((l1 * t2 + t1 * l2 : Nat) : Int) ((l2 * t2 : Nat) : Int) = some ((s1 : Int), (s2 : Int)) from hs]
  dsimp only
  rw [rdiv_V gs gz]
  exact hv
/-- the polynomial at a point -/
noncomputable def feval (x y : Nat) (p : FP) : Nat := FP.rec 0 (fun k c _ ih => Nat.add (Nat.mul (Nat.mul c (Nat.pow x (Nat.div k 32))) (Nat.pow y (Nat.mod k 32))) ih) p
theorem feval_c {x y k c : Nat} {p : FP} : feval x y (.c k c p) = c * x ^ (k / 32) * y ^ (k % 32) + feval x y p := rfl
theorem rpow_E {x m : Nat} (hx : 0 < x) (hx4 : x ≤ 4) (hm : m ≤ 10000) : rpowL ((x : Int), 1) (m : Int) = some (cE (x ^ m)) := by
  unfold rpowL
  rw [if_neg (by exact ar1)]
  unfold rpowP
  have h1 : mx (absI (x : Int)) 1 = (x : Int) := by
    unfold mx absI
    rw [if_neg (show ¬ (x : Int) < 0 by exact ar1)]
    split <;> omega
  have hs : sm (x : Int) := sm_nat (by show x ≤ 576460752303423488; exact ar18 hx4)
  rw [if_pos ⟨⟨by exact Int.natCast_nonneg _, by exact ar288 hm, hs, sm_one⟩, by
    show mx (absI (x : Int)) 1 = 1 ∨ mx (absI (x : Int)) 1 = 2 ∨ mx (absI (x : Int)) 1 = 3 ∨ mx (absI (x : Int)) 1 = 4
    rw [h1]; exact ar289 hx hx4⟩, Int.toNat_natCast]
  show some ((x : Int) ^ m, (1 : Int) ^ m) = some (((x ^ m : Nat) : Int), 1)
  rw [Int.one_pow, Int.natCast_pow]
theorem add_E {a b : Nat} (h : a + b ≤ big59) : raddL (cE a) (cE b) = some (cE (a + b)) := by
  have h : a + b ≤ 576460752303423488 := h
  have := radd_one (a := (a : Int)) (b := (b : Int)) (sm_nat (by show a ≤ 576460752303423488; exact Nat.le_of_add_right_le h)) (sm_nat (by show b ≤ 576460752303423488; exact Nat.le_of_add_left_le h)) (by
    have := sm_nat (c := a + b) h
    simpa using this)
  simpa [cE] using this
theorem at_part {x y : Nat} (hx : 0 < x) (hx4 : x ≤ 4) (hy : 0 < y) (hy4 : y ≤ 4) : ∀ {p : FP} {a : Nat}, Gd Kg p → a + feval x y p ≤ big59 →
    foldF (fun acc (e : Q2 × Q2) => match rpowL ((x : Int), 1) e.1.1 with
      | some u => (match rmulL e.2 u with
        | some c1 => (match rpowL ((y : Int), 1) e.1.2 with
          | some w => (match rmulL c1 w with
            | some c2 => raddL acc c2
            | none => none)
          | none => none)
        | none => none)
      | none => none) (cE a) (E p) = some (cE (a + feval x y p))
  | .n, _, _, _ => rfl
  | .c k c p, a, g, h => by
    rw [feval_c] at h ⊢
    have h : a + (c * x ^ (k / 32) * y ^ (k % 32) + feval x y p) ≤ 576460752303423488 := h
    have hk := g.1.2.1.2
    have px : 0 < x ^ (k / 32) := Nat.pow_pos hx
    have py : 0 < y ^ (k % 32) := Nat.pow_pos hy
    have l1 : c * x ^ (k / 32) ≤ c * x ^ (k / 32) * y ^ (k % 32) := Nat.le_mul_of_pos_right _ py
    have l2 : x ^ (k / 32) ≤ c * x ^ (k / 32) := Nat.le_mul_of_pos_left _ g.1.2.2.1
    have l3 : y ^ (k % 32) ≤ c * x ^ (k / 32) * y ^ (k % 32) := Nat.le_mul_of_pos_left _ (Nat.mul_pos g.1.2.2.1 px)
    have b1 : c * x ^ (k / 32) ≤ big59 := by show _ ≤ 576460752303423488; exact ar67 h l1
    have b2 : c * x ^ (k / 32) * y ^ (k % 32) ≤ big59 := by show _ ≤ 576460752303423488; exact ar290 h
    show foldF _ (cE a) ((kE k, cE c) :: E p) = _
    unfold foldF
    dsimp only
    rw [show (kE k).1 = ((k / 32 : Nat) : Int) from rfl, show (kE k).2 = ((k % 32 : Nat) : Int) from rfl, rpow_E hx hx4 (by exact ar291 hk)]
    dsimp only
    rw [mul_E g.1.2.2.2 (by show _ ≤ 576460752303423488; exact ar292 h l1 l2) b1, rpow_E hy hy4 (by exact ar293)]
    dsimp only
    rw [mul_E b1 (by show _ ≤ 576460752303423488; exact ar67 h l3) b2]
    dsimp only
    rw [add_E (by show _ ≤ 576460752303423488; exact ar294 h)]
    dsimp only
    rw [at_part hx hx4 hy hy4 g.2 (by show _ ≤ 576460752303423488; exact ar295 h), Nat.add_assoc]
theorem at_E {x y : Nat} {p : FP} (hx : 0 < x) (hx4 : x ≤ 4) (hy : 0 < y) (hy4 : y ≤ 4) (g : Gd Kg p) (h : feval x y p ≤ big59) : mvatL (E p) ((x : Int), 1) ((y : Int), 1) = some (cE (feval x y p)) := by
  have hl := g.len fun _ h => h.lt
  unfold mvatL
  rw [if_pos (by unfold lim; exact ar0 hl)]
  have := at_part hx hx4 hy hy4 (a := 0) g (by rw [Nat.zero_add]; exact h)
  rw [Nat.zero_add] at this
  exact (fold_keysE (F := fun acc k c => match rpowL ((x : Int), 1) k.1 with
      | some u => (match rmulL c u with
        | some c1 => (match rpowL ((y : Int), 1) k.2 with
          | some w => (match rmulL c1 w with
            | some c2 => raddL acc c2
            | none => none)
          | none => none)
        | none => none)
      | none => none) g.keys_nodup).trans this
end Mine
namespace Mine
open PySem PyProof.Rows
inductive RW where
  | n
  | c (p : FP) (i j : Nat) (r : RW)
noncomputable def RL : RW → List (PL × Q2)
  | .n => []
  | .c p i j r => (E p, ((i : Int), (j : Int))) :: RL r
noncomputable def RG : RW → Prop
  | .n => True
  | .c p i j r => (Gd Kg p ∧ i ≤ 100 ∧ j ≤ 100) ∧ RG r
noncomputable def toOne (r : FR) (ih : (RW → Bool) → Bool) (k : RW → Bool) : Bool := match r with
  | (p, (.ofNat i, .ofNat j)) => forceP p fun p => forceN i fun i => forceN j fun j => Bool.rec false (Bool.rec false (ih fun t => k (.c p i j t)) (Nat.ble j 100)) (Nat.ble i 100)
  | _ => false
noncomputable def toRW (l : List FR) : (RW → Bool) → Bool := List.rec (motive := fun _ => (RW → Bool) → Bool) (fun k => k .n) (fun r _ ih k => toOne r ih k) l
theorem toRW_E : ∀ {l : List FR} {k : RW → Bool}, GR l → toRW l k = true → ∃ rs, RL rs = R l ∧ RG rs ∧ k rs = true
  | [], k, _, h => ⟨.n, rfl, trivial, h⟩
  | r :: l, k, g, h => by
    have h0 : toOne r (toRW l) k = true := h
    clear h
    unfold toOne at h0
    split at h0
    · rename_i p i j
      rw [forceP_eq, forceN_eq, forceN_eq] at h0
      obtain ⟨h1, h3⟩ := bb_inv h0
      obtain ⟨h2, h4⟩ := bb_inv h3
      obtain ⟨rs, e, gr, h⟩ := toRW_E (fun x hx => g x (List.mem_cons_of_mem _ hx)) h4
      refine ⟨_, ?_, ?_, h⟩
      · show (E p, ((i : Int), (j : Int))) :: RL rs = _
        rw [e]; rfl
      · exact ⟨⟨g _ List.mem_cons_self, Nat.le_of_ble_eq_true h1, Nat.le_of_ble_eq_true h2⟩, gr⟩
    · first | exact no_some h0 | cases h0
noncomputable def fpts (o al be x y : Nat) (rs : RW) : FP → Bool := RW.rec (motive := fun _ => FP → Bool) (fun _ => true) (fun p i j _ ih w => fval o al be w fun v1 v2 => rat (Nat.mul v1 (Nat.mul (Nat.pow x i) (Nat.pow y j))) v2 fun t b => Bool.rec false (Bool.rec false (ih (.c v1 v2 w)) (Nat.beq t (feval x y p))) (Nat.beq b 1)) rs
theorem fpts_c {o al be x y i j : Nat} {p w : FP} {rs : RW} : fpts o al be x y (.c p i j rs) w = fval o al be w fun v1 v2 => rat (Nat.mul v1 (Nat.mul (Nat.pow x i) (Nat.pow y j))) v2 fun t b => Bool.rec false (Bool.rec false (fpts o al be x y rs (.c v1 v2 w)) (Nat.beq t (feval x y p))) (Nat.beq b 1) := rfl
theorem fpts_E {o al be x y : Nat} (ho2 : 2 ≤ o) (hal : VO al 1) (hbe : VO be 1) (hx : 0 < x) (hx4 : x ≤ 4) (hy : 0 < y) (hy4 : y ≤ 4) : ∀ {rs : RW} {w : FP}, RG rs → VG w → (VL w).length + (RL rs).length < 900 → fpts o al be x y rs w = true → pointRun (o : Int) (al : Int) (be : Int) (x : Int) (y : Int) (RL rs) (VL w) = true
  | .n, _, _, _, _, _ => rfl
  | .c p i j rs, w, gr, gw, hl, h => by
    have hl : (VL w).length + ((RL rs).length + 1) < 900 := hl
    rw [fpts_c] at h
    obtain ⟨v1, v2, e, gv, h⟩ := fval_E gw (by omega) ho2 hal hbe h
    have px : 0 < x ^ i := Nat.pow_pos hx
    have py : 0 < y ^ j := Nat.pow_pos hy
    obtain ⟨lt, t, b, e2, gt, h7⟩ := rat_E h (Nat.mul_pos gv.1.1 (Nat.mul_pos px py)) gv.2.1
    obtain ⟨hb, h8⟩ := bb_inv h7
    obtain ⟨ht, h9⟩ := bb_inv h8
    have hb : b = 1 := Nat.eq_of_beq_eq_true hb
    have ht : t = feval x y p := Nat.eq_of_beq_eq_true ht
    subst hb
    subst ht
    have lt : v1 * (x ^ i * y ^ j) ≤ 576460752303423488 := lt
    have l1 : x ^ i * y ^ j ≤ v1 * (x ^ i * y ^ j) := Nat.le_mul_of_pos_left _ gv.1.1
    have l2 : x ^ i ≤ x ^ i * y ^ j := Nat.le_mul_of_pos_right _ py
    have l3 : y ^ j ≤ x ^ i * y ^ j := Nat.le_mul_of_pos_left _ px
    have gb : VO (x ^ i * y ^ j) 1 := ⟨⟨Nat.mul_pos px py, by show _ ≤ 576460752303423488; exact Nat.le_trans l1 lt⟩, by decide, by decide⟩
    have hq : rmulL ((v1 : Int), (v2 : Int)) (cE (x ^ i * y ^ j)) = some (cE (feval x y p)) := by
      have q := rmul_V gv gb
      rw [Nat.mul_one] at q
      exact q.trans e2
    have hstep : pointStep (o : Int) (al : Int) (be : Int) (x : Int) (y : Int) (E p, ((i : Int), (j : Int))) (VL w) = some ((v1 : Int), (v2 : Int)) := by
      unfold pointStep
      rw [e]
      dsimp only
      have hi := gr.1.2.1
      have hj := gr.1.2.2
      rw [rpow_E hx hx4 (by exact ar53 hi), rpow_E hy hy4 (by exact ar53 hj)]
      dsimp only
      rw [mul_E (by show _ ≤ 576460752303423488; exact ar54 lt l1 l2) (by show _ ≤ 576460752303423488; exact ar54 lt l1 l3) (by show _ ≤ 576460752303423488; exact Nat.le_trans l1 lt)]
      dsimp only
      rw [at_E hx hx4 hy hy4 gr.1.1 gt.1.2]
      dsimp only
      rw [hq]
      dsimp only
      rw [if_pos rfl]
    show pointRun _ _ _ _ _ ((E p, ((i : Int), (j : Int))) :: RL rs) (VL w) = true
    unfold pointRun
    rw [hstep]
    dsimp only
    have hn : (VL (.c v1 v2 w)).length = (VL w).length + 1 := by simp [VL]
    exact fpts_E ho2 hal hbe hx hx4 hy hy4 (w := .c v1 v2 w) gr.2 ⟨gv, gw⟩ (by rw [hn]; exact ar14 hl) h9
/-- the first values -/
noncomputable def vini (f s x y : Nat) (o : Nat) : FP := Nat.rec .n (fun i ih => .c (Bool.rec (Bool.rec 1 y (Nat.beq i s)) x (Nat.beq i f)) 1 ih) o
theorem vini_E {f s x y : Nat} (hx : 0 < x) (hx4 : x ≤ 4) (hy : 0 < y) (hy4 : y ≤ 4) : ∀ {o : Nat}, VL (vini f s x y o) = (List.range o).map (initVal (f : Int) (s : Int) (x : Int) (y : Int)) ∧ VG (vini f s x y o)
  | 0 => ⟨rfl, trivial⟩
  | o + 1 => by
    obtain ⟨h1, h2⟩ := vini_E (f := f) (s := s) hx hx4 hy hy4 (o := o)
    have e : (((Bool.rec (Bool.rec 1 y (Nat.beq o s)) x (Nat.beq o f) : Nat) : Int), ((1 : Nat) : Int)) = initVal (f : Int) (s : Int) (x : Int) (y : Int) o ∧ VO (Bool.rec (Bool.rec 1 y (Nat.beq o s)) x (Nat.beq o f)) 1 := by
      unfold initVal
      cases q : Nat.beq o f with
      | true =>
        have : o = f := Nat.eq_of_beq_eq_true q
        rw [if_pos (by exact congrArg _ this)]
        exact ⟨rfl, ⟨hx, by show x ≤ 576460752303423488; exact ar18 hx4⟩, by decide, by decide⟩
      | false =>
        have : ¬ o = f := fun e => by rw [e, show Nat.beq f f = true from Nat.beq_refl f] at q; cases q
        rw [if_neg (by exact fun q => this (Int.ofNat.inj q))]
        cases q2 : Nat.beq o s with
        | true =>
          have : o = s := Nat.eq_of_beq_eq_true q2
          rw [if_pos (by exact congrArg _ this)]
          exact ⟨rfl, ⟨hy, by show y ≤ 576460752303423488; exact ar18 hy4⟩, by decide, by decide⟩
        | false =>
          have : ¬ o = s := fun e => by rw [e, show Nat.beq s s = true from Nat.beq_refl s] at q2; cases q2
          rw [if_neg (by exact fun q => this (Int.ofNat.inj q))]
          exact ⟨rfl, ⟨by show 0 < 1; decide, by show 1 ≤ big59; decide⟩, by decide, by decide⟩
    refine ⟨?_, e.2, h2⟩
    rw [List.range_succ, List.map_append, ← h1, List.map_cons, ← e.1]
    rfl
noncomputable def rini (f s : Nat) (i : Nat) : FR := (.c 0 1 .n, (Bool.rec 0 (-1) (Nat.beq i f), Bool.rec 0 (-1) (Nat.beq i s)))
theorem rini_E {f s o : Nat} : R ((List.range o).map (rini f s)) = (List.range o).map (initRow (f : Int) (s : Int)) := by
  unfold R
  rw [List.map_map]
  refine List.map_congr_left fun i _ => ?_
  have e : ∀ {i f : Nat}, (Bool.rec 0 (-1) (Nat.beq i f) : Int) = if (i : Int) = (f : Int) then -1 else 0 := by
    intro i f
    cases q : Nat.beq i f with
    | true =>
      have : i = f := Nat.eq_of_beq_eq_true q
      rw [if_pos (by exact congrArg _ this)]
    | false =>
      have : ¬ i = f := fun e => by rw [e, show Nat.beq f f = true from Nat.beq_refl f] at q; cases q
      rw [if_neg (by exact fun q => this (Int.ofNat.inj q))]
  show (E (.c 0 1 .n), ((Bool.rec 0 (-1) (Nat.beq i f) : Int), (Bool.rec 0 (-1) (Nat.beq i s) : Int))) = initRow (f : Int) (s : Int) i
  rw [e, e]
  rfl
theorem rini_G {f s o : Nat} : GR ((List.range o).map (rini f s)) := fun r hr => by
  obtain ⟨i, _, rfl⟩ := List.mem_map.mp hr
  exact ⟨⟨by simp [ks], ⟨by decide, by decide⟩, by decide, by decide⟩, trivial⟩
noncomputable def fsumc (p : FP) : Nat := FP.rec 0 (fun _ c _ ih => Nat.add c ih) p
theorem coefs_E {K : Nat → Prop} {p : FP} (g : Gd K p) : coefs (E p) = (E p).map fun e => e.2.1 := by
  unfold coefs keys
  rw [List.map_map]
  refine List.map_congr_left fun e he => ?_
  show ((plGet (E p) e.1).getD (0, 1)).1 = e.2.1
  rw [get_mem g.keys_nodup e he]
  rfl
theorem sum_E : ∀ {p : FP} {x : Int}, sumL x ((E p).map fun e => e.2.1) = x + (fsumc p : Int)
  | .n, x => by
    show x = x + ((0 : Nat) : Int)
    exact ar182
  | .c k c p, x => by
    show sumL (x + (c : Int)) ((E p).map fun e => e.2.1) = x + ((c + fsumc p : Nat) : Int)
    rw [sum_E]
    exact Int.add_assoc _ _ _
noncomputable def fend (al be S : Nat) (rows : List FR) : Bool := Bool.rec (Bool.rec (match rows.getLast? with
  | some r => Nat.beq (fsumc r.1) S
  | none => false) true (Nat.ble 2 be)) true (Nat.ble 2 al)
theorem fend_E {al be S : Nat} {rows : List FR} (g : GR rows) (hl : rows.length < 900) (h : fend al be S rows = true) : endOK (al : Int) (be : Int) (S : Int) (R rows) = true := by
  unfold endOK
  rcases bx_inv h with ⟨h1, _⟩ | ⟨_, h⟩
  · have h1 : 2 ≤ al := Nat.le_of_ble_eq_true h1
    rw [if_pos (.inl (by exact Int.lt_of_toNat_lt h1))]
  · rcases bx_inv h with ⟨h1, _⟩ | ⟨_, h⟩
    · have h1 : 2 ≤ be := Nat.le_of_ble_eq_true h1
      rw [if_pos (.inr (by exact Int.lt_of_toNat_lt h1))]
    · split
      · rfl
      · cases hr : rows.getLast? with
        | none => rw [hr] at h; cases h
        | some r =>
          rw [hr] at h
          have gr := g r (List.mem_of_getLast? hr)
          have hp := gr.len fun _ h => h.lt
          have h : fsumc r.1 = S := Nat.eq_of_beq_eq_true h
          have e : (R rows).getLast? = some (E r.1, r.2) := by
            unfold R
            rw [List.getLast?_map, hr]
            rfl
          rw [e]
          dsimp only
          rw [decide_eq_true (by exact ar51 hp : (E r.1).length < 9000), decide_eq_true (by rw [R_len]; exact Nat.lt_add_left _ hl : (R rows).length < 9000), coefs_E gr, sum_E, h]
          have : ((keys (E r.1)).all fun k => (plGet (E r.1) k).isSome) = true := by
            refine List.all_eq_true.mpr fun k hk => ?_
            obtain ⟨e, he, rfl⟩ := List.mem_map.mp hk
            rw [get_mem gr.keys_nodup e he]
            rfl
          rw [this]
          simp
/-- rows and points together -/
theorem join_run {o al be x y : Int} {B : Nat} : ∀ {k : Nat} {rows rows' : List (PL × Q2)}, polyRun o al be k rows = some rows' → ∃ new, rows' = rows ++ new ∧ ∀ vals, pointRun o al be x y new vals = true → rows.length + k = B + 1 → B < 8000 → vals.length + k < 9000 → ∃ vals', iterF (lawStep o al be x y B) (k + 1) (rows, vals) = some (rows', vals')
  | 0, rows, rows', h => by
    cases h
    refine ⟨[], by simp, fun vals _ h1 h2 h3 => ⟨vals, ?_⟩⟩
    unfold iterF lawStep
    rw [if_pos ⟨by dsimp only; exact ar184 h1 h2, by dsimp only; exact h3⟩, if_neg (by dsimp only; exact ar187 h1)]
  | k + 1, rows, rows', h => by
    unfold polyRun at h
    split at h
    rotate_left
    · first | exact no_some h | cases h
    rename_i r hr
    obtain ⟨new, e, F⟩ := join_run (x := x) (y := y) (B := B) h
    refine ⟨r :: new, by rw [e]; simp, fun vals hp h1 h2 h3 => ?_⟩
    unfold pointRun at hp
    split at hp
    rotate_left
    · first | exact no_some hp | cases hp
    rename_i v hv
    obtain ⟨vals', hi⟩ := F (vals ++ [v]) hp (by simp; exact ar191 h1) h2 (by simp; exact ar38 h3)
    refine ⟨vals', ?_⟩
    have hs : lawStep o al be x y B (rows, vals) = some (some (rows ++ [r], vals ++ [v])) := by
      unfold lawStep
      rw [if_pos ⟨by dsimp only; exact ar192 h1 h2, by dsimp only; exact Nat.lt_of_add_right_lt h3⟩, if_pos (by dsimp only; exact ar194 h1), hr]
      dsimp only
      rw [hv]
    unfold iterF
    rw [hs]
    exact hi
noncomputable def all4 (P : Nat → Bool) : Bool := Bool.rec false (Bool.rec false (Bool.rec false (P 4) (P 3)) (P 2)) (P 1)
theorem all4_E {P : Nat → Bool} (h : all4 P = true) : ∀ x, x < 4 → P (1 + x) = true := by
  obtain ⟨h1, h⟩ := bb_inv h
  obtain ⟨h2, h⟩ := bb_inv h
  obtain ⟨h3, h4⟩ := bb_inv h
  intro x hx
  have : x = 0 ∨ x = 1 ∨ x = 2 ∨ x = 3 := by exact ar6 hx
  rcases this with rfl | rfl | rfl | rfl
  · exact h1
  · exact h2
  · exact h3
  · exact h4
noncomputable def fclass (N k S al be f s : Nat) : Bool := match frun N al be k N ((List.range N).map (rini f s)) with
  | some rows => Bool.rec false (toRW (rows.drop N) fun rs => all4 fun x => all4 fun y => forceP (vini f s x y N) fun w => fpts N al be x y rs w) (fend al be S rows)
  | none => false
theorem fclass_E {N k S al be f s : Nat} (hN : 2 ≤ N) (hk : N + k = bnd (N : Int) + 1) (hb : N + k < 40) (hS : (S : Int) = sumOK (N : Int)) (hal : VO al 1) (hbe : VO be 1) (h : fclass N k S al be f s = true) : ∀ x y : Nat, x < 4 → y < 4 → lawOK N (al : Int) (be : Int) (f : Int) (s : Int) (1 + (x : Int)) (1 + (y : Int)) = true := by
  unfold fclass at h
  split at h
  rotate_left
  · first | exact no_some h | cases h
  rename_i rows hr
  obtain ⟨h1, h⟩ := bb_inv h
  obtain ⟨gr, hl, hp⟩ := frun_E hN hal.1.1 hal.1.2 hbe.1.1 hbe.1.2 rini_G (by simp) (Nat.le_refl N) (by exact Nat.lt_add_left _ hb) hr
  rw [rini_E] at hp
  have hend := fend_E gr (by exact ar190 hb hl) h1
  obtain ⟨rs, e, grs, h⟩ := toRW_E (fun x hx => gr x (List.mem_of_mem_drop hx)) h
  intro x y hx hy
  have h := all4_E (all4_E h x hx) y hy
  rw [forceP_eq] at h
  obtain ⟨ev, gv⟩ := vini_E (f := f) (s := s) (x := 1 + x) (y := 1 + y) (o := N) (by exact Nat.add_pos_left Nat.zero_lt_one _) (by exact Nat.one_add_le_iff.mpr hx) (by exact Nat.add_pos_left Nat.zero_lt_one _) (by exact Nat.one_add_le_iff.mpr hy)
  have hvl : (VL (vini f s (1 + x) (1 + y) N)).length = N := by rw [ev]; simp
  have hrl : (RL rs).length ≤ N + k := by rw [e, R_len]; simp; exact ar195 hl
  have hpt := fpts_E hN hal hbe (by exact Nat.add_pos_left Nat.zero_lt_one _) (by exact Nat.one_add_le_iff.mpr hx) (by exact Nat.add_pos_left Nat.zero_lt_one _) (by exact Nat.one_add_le_iff.mpr hy) grs gv (by exact ar196 hb hvl hrl) h
  obtain ⟨new, en, F⟩ := join_run (x := ((1 + x : Nat) : Int)) (y := ((1 + y : Nat) : Int)) (B := bnd (N : Int)) hp
  have hnew : RL rs = new := by
    rw [e]
    have : R (rows.drop N) = (R rows).drop N := by simp [R]
    rw [this, en, List.drop_left' (by simp)]
  rw [hnew, ev] at hpt
  obtain ⟨vals', hi⟩ := F _ hpt (by simp; exact hk) (by exact ar197 hk hb) (by simp; exact Nat.lt_add_left _ hb)
  have hi := iterF_more (j := 49 - k) hi
  rw [show k + 1 + (49 - k) = 50 from by exact ar200 hb] at hi
  unfold lawOK
  rw [show (1 + (x : Int)) = ((1 + x : Nat) : Int) from by exact ar55, show (1 + (y : Int)) = ((1 + y : Nat) : Int) from by exact ar55, hi]
  dsimp only
  rw [← hS]
  exact hend
end Mine
namespace Mine
open PySem PyProof.Rows
noncomputable def allD (n : Nat) (P : Nat → Bool) : Bool := Nat.rec true (fun d ih => Bool.rec false ih (P d)) n
theorem allD_E {P : Nat → Bool} : ∀ {n : Nat}, allD n P = true → ∀ d, d < n → P d = true
  | 0, _, d, h => absurd h (Nat.not_lt_zero d)
  | n + 1, h, d, hd => by
    have h' : (Bool.rec false (allD n P) (P n) : Bool) = true := h
    obtain ⟨h1, h2⟩ := bb_inv h'
    by_cases e : d = n
    · rw [e]; exact h1
    · exact allD_E h2 d (by exact ar199 hd e)
noncomputable def fgrp (N k S al be f : Nat) : Bool := allD (Nat.sub N 1) fun d => forceN (Nat.mod (Nat.add (Nat.add f 1) d) N) fun s => fclass N k S al be f s
theorem fgrp_E {N k S al be f : Nat} (hN : 2 ≤ N) (hk : N + k = bnd (N : Int) + 1) (hb : N + k < 40) (hS : (S : Int) = sumOK (N : Int)) (hal : VO al 1) (hbe : VO be 1) (h : fgrp N k S al be f = true) : ∀ d x y : Nat, d < N - 1 → x < 4 → y < 4 → lawOK N (al : Int) (be : Int) (f : Int) (((f : Int) + 1 + (d : Int)).fmod (N : Int)) (1 + (x : Int)) (1 + (y : Int)) = true := by
  intro d x y hd hx hy
  have h := allD_E h d hd
  rw [forceN_eq] at h
  have e : ((f : Int) + 1 + (d : Int)).fmod (N : Int) = (((f + 1 + d) % N : Nat) : Int) := by
    rw [← fmod_nat]
    rfl
  rw [e]
  exact fclass_E hN hk hb hS hal hbe h x y hx hy
theorem VO1 : VO 1 1 := ⟨⟨by decide, by decide⟩, by decide, by decide⟩
theorem VO2 : VO 2 1 := ⟨⟨by decide, by decide⟩, by decide, by decide⟩
theorem g2110 : fgrp 2 4 34 1 1 0 = true := by decide +kernel
theorem g2111 : fgrp 2 4 34 1 1 1 = true := by decide +kernel
theorem H211 : ∀ f d x y : Nat, f < 2 → d < 2 - 1 → x < 4 → y < 4 → lawOK 2 (1 : Int) (1 : Int) (f : Int) (((f : Int) + 1 + (d : Int)).fmod ((2 : Nat) : Int)) (1 + (x : Int)) (1 + (y : Int)) = true := by
  intro f d x y hf hd hx hy
  have : f = 0 ∨ f = 1 := by exact ar11 hf
  rcases this with rfl | rfl
  · exact fgrp_E (N := 2) (k := 4) (S := 34) (by decide) (by decide) (by decide) (by decide) VO1 VO1 g2110 d x y hd hx hy
  · exact fgrp_E (N := 2) (k := 4) (S := 34) (by decide) (by decide) (by decide) (by decide) VO1 VO1 g2111 d x y hd hx hy
theorem g2120 : fgrp 2 4 34 1 2 0 = true := by decide +kernel
theorem g2121 : fgrp 2 4 34 1 2 1 = true := by decide +kernel
theorem H212 : ∀ f d x y : Nat, f < 2 → d < 2 - 1 → x < 4 → y < 4 → lawOK 2 (1 : Int) (2 : Int) (f : Int) (((f : Int) + 1 + (d : Int)).fmod ((2 : Nat) : Int)) (1 + (x : Int)) (1 + (y : Int)) = true := by
  intro f d x y hf hd hx hy
  have : f = 0 ∨ f = 1 := by exact ar11 hf
  rcases this with rfl | rfl
  · exact fgrp_E (N := 2) (k := 4) (S := 34) (by decide) (by decide) (by decide) (by decide) VO1 VO2 g2120 d x y hd hx hy
  · exact fgrp_E (N := 2) (k := 4) (S := 34) (by decide) (by decide) (by decide) (by decide) VO1 VO2 g2121 d x y hd hx hy
theorem g3110 : fgrp 3 4 11 1 1 0 = true := by decide +kernel
theorem g3111 : fgrp 3 4 11 1 1 1 = true := by decide +kernel
theorem g3112 : fgrp 3 4 11 1 1 2 = true := by decide +kernel
theorem H311 : ∀ f d x y : Nat, f < 3 → d < 3 - 1 → x < 4 → y < 4 → lawOK 3 (1 : Int) (1 : Int) (f : Int) (((f : Int) + 1 + (d : Int)).fmod ((3 : Nat) : Int)) (1 + (x : Int)) (1 + (y : Int)) = true := by
  intro f d x y hf hd hx hy
  have : f = 0 ∨ f = 1 ∨ f = 2 := by exact ar56 hf
  rcases this with rfl | rfl | rfl
  · exact fgrp_E (N := 3) (k := 4) (S := 11) (by decide) (by decide) (by decide) (by decide) VO1 VO1 g3110 d x y hd hx hy
  · exact fgrp_E (N := 3) (k := 4) (S := 11) (by decide) (by decide) (by decide) (by decide) VO1 VO1 g3111 d x y hd hx hy
  · exact fgrp_E (N := 3) (k := 4) (S := 11) (by decide) (by decide) (by decide) (by decide) VO1 VO1 g3112 d x y hd hx hy
theorem g3120 : fgrp 3 4 11 1 2 0 = true := by decide +kernel
theorem g3121 : fgrp 3 4 11 1 2 1 = true := by decide +kernel
theorem g3122 : fgrp 3 4 11 1 2 2 = true := by decide +kernel
theorem H312 : ∀ f d x y : Nat, f < 3 → d < 3 - 1 → x < 4 → y < 4 → lawOK 3 (1 : Int) (2 : Int) (f : Int) (((f : Int) + 1 + (d : Int)).fmod ((3 : Nat) : Int)) (1 + (x : Int)) (1 + (y : Int)) = true := by
  intro f d x y hf hd hx hy
  have : f = 0 ∨ f = 1 ∨ f = 2 := by exact ar56 hf
  rcases this with rfl | rfl | rfl
  · exact fgrp_E (N := 3) (k := 4) (S := 11) (by decide) (by decide) (by decide) (by decide) VO1 VO2 g3120 d x y hd hx hy
  · exact fgrp_E (N := 3) (k := 4) (S := 11) (by decide) (by decide) (by decide) (by decide) VO1 VO2 g3121 d x y hd hx hy
  · exact fgrp_E (N := 3) (k := 4) (S := 11) (by decide) (by decide) (by decide) (by decide) VO1 VO2 g3122 d x y hd hx hy
theorem g4110 : fgrp 4 5 59 1 1 0 = true := by decide +kernel
theorem g4111 : fgrp 4 5 59 1 1 1 = true := by decide +kernel
theorem g4112 : fgrp 4 5 59 1 1 2 = true := by decide +kernel
theorem g4113 : fgrp 4 5 59 1 1 3 = true := by decide +kernel
theorem H411 : ∀ f d x y : Nat, f < 4 → d < 4 - 1 → x < 4 → y < 4 → lawOK 4 (1 : Int) (1 : Int) (f : Int) (((f : Int) + 1 + (d : Int)).fmod ((4 : Nat) : Int)) (1 + (x : Int)) (1 + (y : Int)) = true := by
  intro f d x y hf hd hx hy
  have : f = 0 ∨ f = 1 ∨ f = 2 ∨ f = 3 := by exact ar6 hf
  rcases this with rfl | rfl | rfl | rfl
  · exact fgrp_E (N := 4) (k := 5) (S := 59) (by decide) (by decide) (by decide) (by decide) VO1 VO1 g4110 d x y hd hx hy
  · exact fgrp_E (N := 4) (k := 5) (S := 59) (by decide) (by decide) (by decide) (by decide) VO1 VO1 g4111 d x y hd hx hy
  · exact fgrp_E (N := 4) (k := 5) (S := 59) (by decide) (by decide) (by decide) (by decide) VO1 VO1 g4112 d x y hd hx hy
  · exact fgrp_E (N := 4) (k := 5) (S := 59) (by decide) (by decide) (by decide) (by decide) VO1 VO1 g4113 d x y hd hx hy
theorem g4120 : fgrp 4 5 59 1 2 0 = true := by decide +kernel
theorem g4121 : fgrp 4 5 59 1 2 1 = true := by decide +kernel
theorem g4122 : fgrp 4 5 59 1 2 2 = true := by decide +kernel
theorem g4123 : fgrp 4 5 59 1 2 3 = true := by decide +kernel
theorem H412 : ∀ f d x y : Nat, f < 4 → d < 4 - 1 → x < 4 → y < 4 → lawOK 4 (1 : Int) (2 : Int) (f : Int) (((f : Int) + 1 + (d : Int)).fmod ((4 : Nat) : Int)) (1 + (x : Int)) (1 + (y : Int)) = true := by
  intro f d x y hf hd hx hy
  have : f = 0 ∨ f = 1 ∨ f = 2 ∨ f = 3 := by exact ar6 hf
  rcases this with rfl | rfl | rfl | rfl
  · exact fgrp_E (N := 4) (k := 5) (S := 59) (by decide) (by decide) (by decide) (by decide) VO1 VO2 g4120 d x y hd hx hy
  · exact fgrp_E (N := 4) (k := 5) (S := 59) (by decide) (by decide) (by decide) (by decide) VO1 VO2 g4121 d x y hd hx hy
  · exact fgrp_E (N := 4) (k := 5) (S := 59) (by decide) (by decide) (by decide) (by decide) VO1 VO2 g4122 d x y hd hx hy
  · exact fgrp_E (N := 4) (k := 5) (S := 59) (by decide) (by decide) (by decide) (by decide) VO1 VO2 g4123 d x y hd hx hy
theorem g4210 : fgrp 4 5 59 2 1 0 = true := by decide +kernel
theorem g4211 : fgrp 4 5 59 2 1 1 = true := by decide +kernel
theorem g4212 : fgrp 4 5 59 2 1 2 = true := by decide +kernel
theorem g4213 : fgrp 4 5 59 2 1 3 = true := by decide +kernel
theorem H421 : ∀ f d x y : Nat, f < 4 → d < 4 - 1 → x < 4 → y < 4 → lawOK 4 (2 : Int) (1 : Int) (f : Int) (((f : Int) + 1 + (d : Int)).fmod ((4 : Nat) : Int)) (1 + (x : Int)) (1 + (y : Int)) = true := by
  intro f d x y hf hd hx hy
  have : f = 0 ∨ f = 1 ∨ f = 2 ∨ f = 3 := by exact ar6 hf
  rcases this with rfl | rfl | rfl | rfl
  · exact fgrp_E (N := 4) (k := 5) (S := 59) (by decide) (by decide) (by decide) (by decide) VO2 VO1 g4210 d x y hd hx hy
  · exact fgrp_E (N := 4) (k := 5) (S := 59) (by decide) (by decide) (by decide) (by decide) VO2 VO1 g4211 d x y hd hx hy
  · exact fgrp_E (N := 4) (k := 5) (S := 59) (by decide) (by decide) (by decide) (by decide) VO2 VO1 g4212 d x y hd hx hy
  · exact fgrp_E (N := 4) (k := 5) (S := 59) (by decide) (by decide) (by decide) (by decide) VO2 VO1 g4213 d x y hd hx hy
theorem g4220 : fgrp 4 5 59 2 2 0 = true := by decide +kernel
theorem g4221 : fgrp 4 5 59 2 2 1 = true := by decide +kernel
theorem g4222 : fgrp 4 5 59 2 2 2 = true := by decide +kernel
theorem g4223 : fgrp 4 5 59 2 2 3 = true := by decide +kernel
theorem H422 : ∀ f d x y : Nat, f < 4 → d < 4 - 1 → x < 4 → y < 4 → lawOK 4 (2 : Int) (2 : Int) (f : Int) (((f : Int) + 1 + (d : Int)).fmod ((4 : Nat) : Int)) (1 + (x : Int)) (1 + (y : Int)) = true := by
  intro f d x y hf hd hx hy
  have : f = 0 ∨ f = 1 ∨ f = 2 ∨ f = 3 := by exact ar6 hf
  rcases this with rfl | rfl | rfl | rfl
  · exact fgrp_E (N := 4) (k := 5) (S := 59) (by decide) (by decide) (by decide) (by decide) VO2 VO2 g4220 d x y hd hx hy
  · exact fgrp_E (N := 4) (k := 5) (S := 59) (by decide) (by decide) (by decide) (by decide) VO2 VO2 g4221 d x y hd hx hy
  · exact fgrp_E (N := 4) (k := 5) (S := 59) (by decide) (by decide) (by decide) (by decide) VO2 VO2 g4222 d x y hd hx hy
  · exact fgrp_E (N := 4) (k := 5) (S := 59) (by decide) (by decide) (by decide) (by decide) VO2 VO2 g4223 d x y hd hx hy
theorem g5110 : fgrp 5 6 83 1 1 0 = true := by decide +kernel
theorem g5111 : fgrp 5 6 83 1 1 1 = true := by decide +kernel
theorem g5112 : fgrp 5 6 83 1 1 2 = true := by decide +kernel
theorem g5113 : fgrp 5 6 83 1 1 3 = true := by decide +kernel
theorem g5114 : fgrp 5 6 83 1 1 4 = true := by decide +kernel
theorem H511 : ∀ f d x y : Nat, f < 5 → d < 5 - 1 → x < 4 → y < 4 → lawOK 5 (1 : Int) (1 : Int) (f : Int) (((f : Int) + 1 + (d : Int)).fmod ((5 : Nat) : Int)) (1 + (x : Int)) (1 + (y : Int)) = true := by
  intro f d x y hf hd hx hy
  have : f = 0 ∨ f = 1 ∨ f = 2 ∨ f = 3 ∨ f = 4 := by exact ar12 hf
  rcases this with rfl | rfl | rfl | rfl | rfl
  · exact fgrp_E (N := 5) (k := 6) (S := 83) (by decide) (by decide) (by decide) (by decide) VO1 VO1 g5110 d x y hd hx hy
  · exact fgrp_E (N := 5) (k := 6) (S := 83) (by decide) (by decide) (by decide) (by decide) VO1 VO1 g5111 d x y hd hx hy
  · exact fgrp_E (N := 5) (k := 6) (S := 83) (by decide) (by decide) (by decide) (by decide) VO1 VO1 g5112 d x y hd hx hy
  · exact fgrp_E (N := 5) (k := 6) (S := 83) (by decide) (by decide) (by decide) (by decide) VO1 VO1 g5113 d x y hd hx hy
  · exact fgrp_E (N := 5) (k := 6) (S := 83) (by decide) (by decide) (by decide) (by decide) VO1 VO1 g5114 d x y hd hx hy
theorem g5120 : fgrp 5 6 83 1 2 0 = true := by decide +kernel
theorem g5121 : fgrp 5 6 83 1 2 1 = true := by decide +kernel
theorem g5122 : fgrp 5 6 83 1 2 2 = true := by decide +kernel
theorem g5123 : fgrp 5 6 83 1 2 3 = true := by decide +kernel
theorem g5124 : fgrp 5 6 83 1 2 4 = true := by decide +kernel
theorem H512 : ∀ f d x y : Nat, f < 5 → d < 5 - 1 → x < 4 → y < 4 → lawOK 5 (1 : Int) (2 : Int) (f : Int) (((f : Int) + 1 + (d : Int)).fmod ((5 : Nat) : Int)) (1 + (x : Int)) (1 + (y : Int)) = true := by
  intro f d x y hf hd hx hy
  have : f = 0 ∨ f = 1 ∨ f = 2 ∨ f = 3 ∨ f = 4 := by exact ar12 hf
  rcases this with rfl | rfl | rfl | rfl | rfl
  · exact fgrp_E (N := 5) (k := 6) (S := 83) (by decide) (by decide) (by decide) (by decide) VO1 VO2 g5120 d x y hd hx hy
  · exact fgrp_E (N := 5) (k := 6) (S := 83) (by decide) (by decide) (by decide) (by decide) VO1 VO2 g5121 d x y hd hx hy
  · exact fgrp_E (N := 5) (k := 6) (S := 83) (by decide) (by decide) (by decide) (by decide) VO1 VO2 g5122 d x y hd hx hy
  · exact fgrp_E (N := 5) (k := 6) (S := 83) (by decide) (by decide) (by decide) (by decide) VO1 VO2 g5123 d x y hd hx hy
  · exact fgrp_E (N := 5) (k := 6) (S := 83) (by decide) (by decide) (by decide) (by decide) VO1 VO2 g5124 d x y hd hx hy
theorem g5210 : fgrp 5 6 83 2 1 0 = true := by decide +kernel
theorem g5211 : fgrp 5 6 83 2 1 1 = true := by decide +kernel
theorem g5212 : fgrp 5 6 83 2 1 2 = true := by decide +kernel
theorem g5213 : fgrp 5 6 83 2 1 3 = true := by decide +kernel
theorem g5214 : fgrp 5 6 83 2 1 4 = true := by decide +kernel
theorem H521 : ∀ f d x y : Nat, f < 5 → d < 5 - 1 → x < 4 → y < 4 → lawOK 5 (2 : Int) (1 : Int) (f : Int) (((f : Int) + 1 + (d : Int)).fmod ((5 : Nat) : Int)) (1 + (x : Int)) (1 + (y : Int)) = true := by
  intro f d x y hf hd hx hy
  have : f = 0 ∨ f = 1 ∨ f = 2 ∨ f = 3 ∨ f = 4 := by exact ar12 hf
  rcases this with rfl | rfl | rfl | rfl | rfl
  · exact fgrp_E (N := 5) (k := 6) (S := 83) (by decide) (by decide) (by decide) (by decide) VO2 VO1 g5210 d x y hd hx hy
  · exact fgrp_E (N := 5) (k := 6) (S := 83) (by decide) (by decide) (by decide) (by decide) VO2 VO1 g5211 d x y hd hx hy
  · exact fgrp_E (N := 5) (k := 6) (S := 83) (by decide) (by decide) (by decide) (by decide) VO2 VO1 g5212 d x y hd hx hy
  · exact fgrp_E (N := 5) (k := 6) (S := 83) (by decide) (by decide) (by decide) (by decide) VO2 VO1 g5213 d x y hd hx hy
  · exact fgrp_E (N := 5) (k := 6) (S := 83) (by decide) (by decide) (by decide) (by decide) VO2 VO1 g5214 d x y hd hx hy
theorem g5220 : fgrp 5 6 83 2 2 0 = true := by decide +kernel
theorem g5221 : fgrp 5 6 83 2 2 1 = true := by decide +kernel
theorem g5222 : fgrp 5 6 83 2 2 2 = true := by decide +kernel
theorem g5223 : fgrp 5 6 83 2 2 3 = true := by decide +kernel
theorem g5224 : fgrp 5 6 83 2 2 4 = true := by decide +kernel
theorem H522 : ∀ f d x y : Nat, f < 5 → d < 5 - 1 → x < 4 → y < 4 → lawOK 5 (2 : Int) (2 : Int) (f : Int) (((f : Int) + 1 + (d : Int)).fmod ((5 : Nat) : Int)) (1 + (x : Int)) (1 + (y : Int)) = true := by
  intro f d x y hf hd hx hy
  have : f = 0 ∨ f = 1 ∨ f = 2 ∨ f = 3 ∨ f = 4 := by exact ar12 hf
  rcases this with rfl | rfl | rfl | rfl | rfl
  · exact fgrp_E (N := 5) (k := 6) (S := 83) (by decide) (by decide) (by decide) (by decide) VO2 VO2 g5220 d x y hd hx hy
  · exact fgrp_E (N := 5) (k := 6) (S := 83) (by decide) (by decide) (by decide) (by decide) VO2 VO2 g5221 d x y hd hx hy
  · exact fgrp_E (N := 5) (k := 6) (S := 83) (by decide) (by decide) (by decide) (by decide) VO2 VO2 g5222 d x y hd hx hy
  · exact fgrp_E (N := 5) (k := 6) (S := 83) (by decide) (by decide) (by decide) (by decide) VO2 VO2 g5223 d x y hd hx hy
  · exact fgrp_E (N := 5) (k := 6) (S := 83) (by decide) (by decide) (by decide) (by decide) VO2 VO2 g5224 d x y hd hx hy
theorem fin_check : ∀ N a b f d x y : Nat, (N = 2 ∨ N = 3 ∨ N = 4 ∨ N = 5) → a < 2 → (N ≤ 3 → a = 0) → b < 2 → f < N → d < N - 1 → x < 4 → y < 4 → lawOK N (1 + a) (1 + b) f (((f : Int) + 1 + d).fmod N) (1 + x) (1 + y) = true := by
  intro N a b f d x y hN ha ha0 hb hf hd hx hy
  have ha' : a = 0 ∨ a = 1 := by exact ar11 ha
  have hb' : b = 0 ∨ b = 1 := by exact ar11 hb
  rcases hN with rfl | rfl | rfl | rfl
  · have : a = 0 := ha0 (by decide)
    subst this
    rcases hb' with rfl | rfl
    · exact H211 f d x y hf hd hx hy
    · exact H212 f d x y hf hd hx hy
  · have : a = 0 := ha0 (by decide)
    subst this
    rcases hb' with rfl | rfl
    · exact H311 f d x y hf hd hx hy
    · exact H312 f d x y hf hd hx hy
  · rcases ha' with rfl | rfl <;> rcases hb' with rfl | rfl
    · exact H411 f d x y hf hd hx hy
    · exact H412 f d x y hf hd hx hy
    · exact H421 f d x y hf hd hx hy
    · exact H422 f d x y hf hd hx hy
  · rcases ha' with rfl | rfl <;> rcases hb' with rfl | rfl
    · exact H511 f d x y hf hd hx hy
    · exact H512 f d x y hf hd hx hy
    · exact H521 f d x y hf hd hx hy
    · exact H522 f d x y hf hd hx hy
theorem law_true' (ns : List Int) : ∃ σ', callF P0 11 (Str.ofString "law") [.ilist ns] [] = some (.bool true, σ') := law_from fin_check ns
end Mine
set_option maxHeartbeats 8000000
namespace Mine
open PySem PySem.W PyProof.Rows
noncomputable def keptS : Stmt → Bool
  | .Assign [.Name x _] _ _ => !(x == Str.ofString "__name__")
  | _ => true
/-- the text without the lines that set its name -/
noncomputable def vw : Program := { PySem.Challenge.pw_xm0132_01 with main := { PySem.Challenge.pw_xm0132_01.main with body := PySem.Challenge.pw_xm0132_01.main.body.filter keptS } }
noncomputable def biNames : List Str := [Str.ofString "abs", Str.ofString "len", Str.ofString "max", Str.ofString "min", Str.ofString "sum", Str.ofString "tuple", Str.ofString "dict", Str.ofString "any", Str.ofString "int", Str.ofString "enumerate", Str.ofString "range"]
noncomputable def glNames : List (Str × Int) := [(Str.ofString "MOST_BITS", 200000), (Str.ofString "MOST_FAR", 20000), (Str.ofString "MOST_WORK", 3000000)]
noncomputable def r0At (h : Heap) (v : Option Value) : Bool := match v with
  | some (.ref a) => (match h.get? a with
    | some o => (match o.cls with
      | .type s => s == "tuple"
      | _ => false) && (match o.data with
      | .seq items _ => (match items.toList with
        | [.int i _, .int j _] => i == 0 && j == 1
        | _ => false)
      | _ => false)
    | none => false)
  | _ => false
noncomputable def intAt (v : Option Value) (i : Int) : Bool := match v with
  | some (.int j _) => i == j
  | _ => false
noncomputable def seenH (h : Heap) : Bool := h.isNs mainGlobals && (r0At h (h.nsMap mainGlobals (Str.ofString "R0")) && ((glNames.all fun x => intAt (h.nsMap mainGlobals x.1) x.2) && (biNames.all fun x => (h.nsMap mainGlobals x).isNone)))
noncomputable def Says (h : Heap) : Prop := ∃ m, h.Ns mainGlobals m ∧ r0At h (m (Str.ofString "R0")) = true ∧ (∀ x ∈ glNames, intAt (m x.1) x.2 = true) ∧ ∀ x ∈ biNames, m x = none
theorem r0At_keeps {h h' : Heap} (hk : ∀ b o, h.get? b = some o → h'.get? b = some o) {v : Option Value} (e : r0At h v = true) : r0At h' v = true := by
  unfold r0At at e ⊢
  split at e
  · rename_i a
    split at e
    · rename_i o ho
      rw [hk _ _ ho]
      exact e
    · cases e
  · cases e
theorem says_keeps {h h' : Heap} (x : Says h) (hk : ∀ b o, h.get? b = some o → h'.get? b = some o) : Says h' := by
  obtain ⟨m, a, b, c, d⟩ := x
  exact ⟨m, a.keeps hk, r0At_keeps hk b, c, d⟩
theorem says_of {h : Heap} (e : seenH h = true) : Says h := by
  unfold seenH at e
  simp only [Bool.and_eq_true, List.all_eq_true, Option.isNone_iff_eq_none] at e
  exact ⟨_, .of_isNs e.1, e.2.1, e.2.2.1, e.2.2.2⟩
theorem Says.r0 {h : Heap} {mg : Str → Option Value} (X : Says h) (G : h.Ns mainGlobals mg) : ∃ v, mg (Str.ofString "R0") = some v ∧ Rep h h [] v (.tup [.int 0, .int 1]) := by
  obtain ⟨m, a, b, _, _⟩ := X
  rw [a.agree G] at b
  unfold r0At at b
  split at b
  · rename_i ad e
    split at b
    · rename_i o ho
      obtain ⟨b1, b2⟩ := Bool.and_eq_true_iff.mp b
      split at b1
      · rename_i s hs
        split at b2
        · rename_i items n hd
          split at b2
          · rename_i i t j u hl
            simp only [Bool.and_eq_true, beq_iff_eq] at b1 b2
            obtain ⟨rfl, rfl⟩ := b2
            subst b1
            exact ⟨_, e, .tup' (vs := [.int 0 t, .int 1 u]) ⟨o, ho, hs, n, by rw [hd, ← hl]⟩ (.cons (.int _ _) (.cons (.int _ _) .nil))⟩
          · cases b2
        · cases b2
      · cases b1
    · cases b
  · cases b
theorem Says.int {h : Heap} {mg : Str → Option Value} (X : Says h) (G : h.Ns mainGlobals mg) {x : Str} {i : Int} (hx : (x, i) ∈ glNames) : ∃ v, mg x = some v ∧ Rep h h [] v (.int i) := by
  obtain ⟨m, a, _, c, _⟩ := X
  have := c _ hx
  rw [a.agree G] at this
  unfold intAt at this
  dsimp only at this
  split at this
  · rename_i j t e
    have := beq_iff_eq.mp this
    subst this
    exact ⟨_, e, .int _ _⟩
  · cases this
theorem Says.none {h : Heap} {mg : Str → Option Value} (X : Says h) (G : h.Ns mainGlobals mg) {x : Str} (hx : x ∈ biNames) : mg x = Option.none := by
  obtain ⟨m, a, _, _, d⟩ := X
  rw [← a.agree G]
  exact d x hx
theorem bi_mem {f : Str} {b : Bi} (h : biOf f = some b) : f ∈ biNames := by
  unfold biOf at h
  unfold biNames
  repeat' (split at h; · rename_i q; subst q; simp)
  cases h
theorem gl_of {h : Heap} {mg : Str → Option Value} (X : Says h) (G : h.Ns mainGlobals mg) : ∀ x V, gl0 x = some V → ∃ v, mg x = some v ∧ Rep h h [] v V := by
  intro x V hx
  unfold gl0 at hx
  split at hx
  · rename_i q; subst q; cases hx; exact X.r0 G
  · split at hx
    · rename_i q; subst q; cases hx; exact X.int G (by simp [glNames])
    · split at hx
      · rename_i q; subst q; cases hx; exact X.int G (by simp [glNames])
      · split at hx
        · rename_i q; subst q; cases hx; exact X.int G (by simp [glNames])
        · cases hx
noncomputable def myHook : Hook := ⟨Bool, fun s => seenH s.heap, fun _ => true, fun _ h => Says h, fun _ _ e => says_of e, fun _ _ _ x hk => says_keeps x hk⟩
theorem close {prog : Program} {w : World} {s₁ : Shared} {mg mb : Str → Option Value} {fa l : Addr} {vs : List Value} {ns : List Int} {A : Around} {c : ClaimW} {cl : Str → Option Addr} {mean : ExcName → Option Value} {args : List WData}
    (W : Wd s₁.heap P0 mg mb) (hmg : mg (Str.ofString "law") = some (.ref fa)) (hL : s₁.heap.IsList l vs.toArray) (hI : IntsAre vs ns) (hn : ns.length ≤ 63) (R : Rm A 14) (hg : s₁.gens = #[])
    (hr : ∀ cls, c.raises args cls = false) (hp : c.post args (.bool true) args = true) : codeAny (model prog w) A (.call (.ref fa) ⟨[.ref l], []⟩) (GoodWG c cl mean args s₁) s₁ := by
  obtain ⟨σ', h⟩ := law_true' ns
  have S : Stt prog w s₁.heap [] [] s₁ := ⟨fun _ _ e => e, fun _ h => (by cases h), List.nodup_nil, rfl, fun _ _ e => (by cases e)⟩
  have r : RepL s₁.heap s₁.heap [] [.ref l] [.ilist ns] := .cons (.ilist hL hI (by rw [hI.length, sizeLine_eq]; omega)) .nil
  refine codeAny_mono (callStep (prog := prog) (w := w) (n := 10) W (call_ok W 10) (A := A) (a := fa) (f := Str.ofString "law") R S r hmg h) fun res s' hres => GoodW.toG ?_
  cases res with
  | error e => exact hres.elim
  | ok f =>
    cases f with
    | ret v =>
      obtain ⟨μ', S', rv, E'⟩ := hres
      cases rv
      obtain ⟨h', tk', rfl⟩ := E'.stp.same
      exact ⟨.inl ⟨_, _, [], rfl, hr, .bool true, hp, fun _ => ⟨List.nodup_nil, fun a ha => (by cases ha)⟩⟩, fun b o e => S'.base b o e, rfl, hg⟩
    | _ => exact hres.elim
theorem wd_of {p : Program} {loose : List Str} {mean : ExcName → Option Value} {mg mb : Str → Option Value} {h : Heap} (X : Says h) (T : Top p loose mean mg mb h) (ht : recsOf p = P0.tbl) (hs : importsNone p = true) : Wd h P0 mg mb :=
  ⟨T.g, T.b, T.nolimit, (by obtain ⟨mm, ⟨o, es, ep, e, _⟩, _⟩ := (T.seer hs).mods; exact ⟨o, e⟩), fun d hd => T.fn d (by rw [ht]; exact hd), fun f b hb => X.none T.g (bi_mem hb), X.none T.g (by simp [biNames]), X.none T.g (by simp [biNames]),
    fun x hx => T.builtins x hx, gl_of X T.g⟩
theorem left : LeftO PySem.Challenge.rw_xm0132_01.row.prog vw [] (fun s => xlAt vw [] s && recOk (RowW.records PySem.Challenge.rw_xm0132_01.row.toRowW) s) myHook.obs myHook.val 2800 := fun w => by kernel_rfl
theorem law_said : PySem.Challenge.rw_xm0132_01.wellSaid = true := by decide +kernel
theorem law_def : defOf vw PySem.Challenge.rw_xm0132_01.row.name = some (recAt 43, []) := by kernel_rfl
theorem law_the : PySem.Challenge.rw_xm0132_01.row.prog.theDef PySem.Challenge.rw_xm0132_01.row.name = some ((recAt 43).params, (recAt 43).body, (recAt 43).scope) := by kernel_rfl
theorem law_kw : kwWritten? (recAt 43).params.kwonlyargs (recAt 43).params.kw_defaults = some [] := by kernel_rfl
theorem law_ok : (chainsOk vw && opensWell PySem.Challenge.rw_xm0132_01.row.prog && (frees PySem.Challenge.rw_xm0132_01.row.toRowW && PySem.Challenge.rw_xm0132_01.row.within.isEmpty)) = true := by decide +kernel
theorem law_bare : PySem.Challenge.rw_xm0132_01.row.prog.bare := ⟨rfl, rfl, rfl, rfl, rfl, by decide +kernel⟩
theorem law_prom : PySem.Challenge.rw_xm0132_01.row.toRowW.promised := ⟨[.list []], by decide +kernel, by decide +kernel⟩
theorem q_recs : recsOf vw = P0.tbl := by kernel_rfl
theorem q_imp : importsNone vw = true := by kernel_rfl
end Mine
open PySem PySem.W PyProof.Rows
set_option maxHeartbeats 8000000 in
theorem PySem.Challenge.cw_xm0132_01_holds : PySem.Challenge.rw_xm0132_01.Holds := by
  refine holds_law Mine.law_said fun said => holds_open (d := Mine.recAt 43) (kwd := []) (XP := XL Mine.vw []) (YP := Mine.myHook.says) Mine.left Mine.myHook.of Mine.myHook.keeps (fun s e => xl_of s (Bool.and_eq_true_iff.mp e).1) XL.keeps Mine.law_def Mine.law_the Mine.law_kw (fun s e => recFacts_of (Bool.and_eq_true_iff.mp e).2) rfl said Mine.law_ok Mine.law_bare Mine.law_prom ?_
  intro w s₀ s₁ mg mb G Y fa o pm cd doc dV kV ho hd hcd hD hmg hg args vals as hpre hlay hrd hwl hlo
  have KX : Mine.Says s₁.heap := Y
  clear Y ho hd hcd hD
  refine Ground.open G ?_
  intro T B D TE TW
  clear B D TE TW G
  wrow_args hpre hlay hrd hwl hlo
  all_goals (first | refine callC_kw (enter_call ?_) | refine enter_call ?_)
  all_goals (refine Mine.close (Mine.wd_of KX T Mine.q_recs Mine.q_imp) hmg (by assumption) (by assumption) (by omega) ⟨rfl, by decide, by decide⟩ hg (fun _ => rfl) ?_; first | rfl | kernel_rfl | (simp; done) | wrow_close)
