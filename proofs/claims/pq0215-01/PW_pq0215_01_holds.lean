import PyProof.Rows.All
import Wide.All
import OpenK.AllK
import Wide.FinOn
import PySem.Challenge.RW_pq0215_01
set_option Elab.async false
set_option linter.unusedVariables false
set_option compiler.extract_closed false
section
open PySem PySem.W PyProof.Rows
namespace Mine
/-- the text's defs and its class -/
noncomputable def keptStmt : Stmt → Bool
  | .FunctionDef .. => true
  | .ClassDef .. => true
  | _ => false
noncomputable def vw : Program := { PySem.Challenge.pw_pq0215_01 with main := { PySem.Challenge.pw_pq0215_01.main with body := PySem.Challenge.pw_pq0215_01.main.body.filter keptStmt } }
set_option maxRecDepth 100000 in
set_option maxHeartbeats 8000000 in
/-- the text runs through, and leaves what the law needs -/
theorem left_ok : LeftO PySem.Challenge.rw_pq0215_01.row.prog vw [] (fun s => xlAt vw [] s && recOk (RowW.records PySem.Challenge.rw_pq0215_01.row.toRowW) s) Hook.none.obs Hook.none.val 2572 :=
  fun w => by kernel_rfl
end Mine
end
namespace Mine
theorem zq1 {n0 : Nat} (h0 : n0 ≤ 100) : n0 ≤ 65536 := by first | lia | grind | omega
theorem zq2 {n0 n1 : Nat} (h0 : ¬n1 < n0) : n0 ≤ n1 := by first | exact Nat.le_of_not_lt h0 | simp_all | omega
theorem zq3 {n0 : Nat} : n0 < n0 + 1 := by first | exact Nat.lt_add_one n0 | simp_all | grind | omega
theorem zq4 {n0 : Nat} (h0 : 2 ≤ n0) (h1 : n0 ≤ 5) : n0 ≤ 6 := by first | exact Nat.le_succ_of_le h1 | lia | grind | omega
theorem zq5 {n0 : Nat} : 0 ≤ (↑n0 : Int) := by first | exact Int.natCast_nonneg n0 | simp_all | grind | omega
theorem zq6 {n0 : Nat} : 0 ≤ n0 - 1 := by first | exact Nat.zero_le (n0 - 1) | simp_all | grind | omega
theorem zq7 {n0 : Nat} (h0 : 0 < n0) : n0 - 1 < n0 := by first | exact Nat.sub_one_lt_of_lt h0 | omega
theorem zq8 {n0 : Nat} (h0 : n0 ≤ 100) (h1 : 0 < n0) : n0 ≤ 65536 := by first | exact Mine.zq1 h0 | lia | grind | omega
theorem zq9 {n0 n1 : Nat} (h0 : n0 ≤ n1) (h1 : n1 ≤ 100) : n0 ≤ 65536 := by first | lia | grind | omega
theorem zq10 {n0 : Nat} (h0 : 2 ≤ n0) (h1 : n0 ≤ 4) : n0 ≤ 6 := by first | lia | grind | omega
theorem zq11 {n0 : Nat} : 0 + (↑n0 : Int) = (↑n0 : Int) := by first | exact Int.zero_add ↑n0 | simp_all | grind | omega
theorem zq12 {n0 : Nat} (h0 : 2 ≤ n0) (h1 : n0 ≤ 5) : n0 ≤ 100 := by first | lia | grind | omega
theorem zq13 {n0 : Nat} (h0 : 2 ≤ n0) : 0 < n0 - 1 := by first | exact Nat.zero_lt_sub_of_lt h0 | omega
theorem zq14 {n0 : Nat} (h0 : 2 ≤ n0) (h1 : n0 ≤ 6) : n0 ≤ 65536 := by first | lia | grind | omega
theorem zq15 {n0 n1 : Nat} (h0 : n0 < n1) : n0 < n1 + 1 := by first | exact Nat.lt_add_right 1 h0 | omega
theorem zq16 {n0 n1 : Nat} (h0 : n0 ≤ 5000) (h1 : n1 * (n0 + 1) ≤ 101 * 5001) : n0 + n1 * (n0 + 1) ≤ 1000000 := by first | lia | grind | omega
theorem zq17 {n0 : Nat} : 0 ≤ (↑(n0 - 1) : Int) := by first | exact Int.natCast_nonneg (n0 - 1) | simp_all | grind | omega
theorem zq18 {n0 : Nat} (h0 : 2 ≤ n0) (h1 : n0 ≤ 4) : n0 ≤ 65536 := by first | lia | grind | omega
theorem zq19 {n0 : Nat} (h0 : n0 ≤ 100) (h1 : 0 < n0) : (↑n0 : Int) - 1 = (↑(n0 - 1) : Int) := by first | lia | grind | omega
theorem zq20 {n0 : Nat} (h0 : n0 ≤ 6) (h1 : 0 < n0) : n0 ≤ 65536 := by first | lia | grind | omega
theorem zq21 {n0 : Nat} (h0 : ¬(n0 - 1) % 2 = 1) : (n0 - 1) % 2 = 0 := by first | exact (fun {n} => Iff.mp Nat.mod_two_ne_one) h0 | simp_all | grind | omega
theorem zq22 {n0 : Nat} (h0 : ¬(n0 - 1) % 2 = 1) : ¬(↑((n0 - 1) % 2) : Int) = 1 := by first | exact Nat.ToInt.of_diseq rfl rfl h0 | simp_all | lia | omega
theorem zq23 {n0 n1 : Nat} (h0 : 0 < n0) (h1 : n0 - 1 < n1) : n0 ≤ n1 := by first | exact Nat.le_of_pred_lt h1 | omega
theorem zq24 {n0 n1 : Nat} (h0 : 2 ≤ n0) (h1 : n0 < n1) : 0 < n0 := by first | exact Nat.zero_lt_of_lt h0 | grind | lia | omega
theorem zq25 {n0 n1 : Nat} (h0 : 2 ≤ n0) (h1 : n0 ≤ 5) (h2 : 2 ≤ n1) (h3 : n1 ≤ 5) : 3 ≤ n0 + n1 := by first | grind | lia | omega
theorem zq26 {n0 n1 : Nat} (h0 : n0 + 1 ≤ n1) : n0 ≤ n1 := by first | exact Nat.le_of_succ_le h0 | lia | omega
theorem zq27 {n0 n1 : Nat} (h0 : n0 < n1) : (↑n0 : Int) < (↑n1 : Int) := by first | exact (fun {n m} => Iff.mpr Int.ofNat_lt) h0 | (simp; omega) | simp_all | omega
theorem zq28 {n0 n1 : Nat} (h0 : n0 < n1) : n0 ≤ n1 := by first | exact Nat.le_of_succ_le h0 | lia | omega
theorem zq29 {n0 n1 : Nat} (h0 : n1 ≤ 6) (h1 : n0 ≤ n1) (h2 : 2 ≤ n1) : n0 ≤ 65536 := by first | lia | grind | omega
theorem zq30 {n0 n1 : Nat} (h0 : ¬n1 ≤ n0) : n0 < n1 := by first | exact Nat.lt_of_not_le h0 | simp_all | omega
theorem zq31 {n0 n1 n2 : Nat} (h0 : 2 ≤ n2) (h1 : n2 < n1) (h2 : n0 < n2) : n0 < n1 := by first | exact Nat.lt_trans h2 h1 | omega
theorem zq32 {i0 : Int} : 0 ≤ (↑(Int.natAbs i0) : Int) := by first | exact Int.natCast_nonneg (Int.natAbs i0) | simp_all | grind | omega
theorem zq33 {i0 : Int} (h0 : Int.natAbs i0 ≤ 25) : Int.natAbs i0 < 1024 := by first | lia | omega
theorem zq34 {i0 : Int} (h0 : Int.natAbs i0 ≤ 5) : Int.natAbs i0 < 1024 := by first | lia | omega
theorem zq35 {n0 : Nat} : n0 ≤ n0 + 1 := by first | exact Nat.le_add_right n0 1 | simp_all | grind | omega
theorem zq36 {n0 : Nat} : n0 ≤ n0 + 3 := by first | exact Nat.le_add_right n0 3 | simp_all | grind | omega
theorem zq37 {n0 : Nat} (h0 : 0 < n0) : n0 = n0 - 1 + 1 := by first | exact (fun {b a c} h => Iff.mp (Nat.sub_eq_iff_eq_add h)) h0 rfl | omega
theorem zq38 {n0 : Nat} (h0 : 1 ≤ n0) (h1 : n0 ≤ 100) : 0 ≤ (↑n0 : Int) := by first | exact Int.natCast_nonneg n0 | simp_all | lia | omega
theorem zq39 {n0 : Nat} (h0 : 1 ≤ n0 ∧ n0 ≤ 100) : n0 ≤ 65536 := by first | lia | grind | omega
theorem zq40 {n0 : Nat} (h0 : 2 ≤ n0) (h1 : n0 ≤ 4) : n0 ≤ 5 := by first | exact Nat.le_succ_of_le h1 | lia | grind | omega
theorem zq41 {n0 : Nat} (h0 : n0 < 9) : Int.natAbs ((↑n0 : Int) - 4) ≤ 4 := by omega
theorem zq42 {n0 : Nat} (h0 : n0 ≤ 0) : n0 = 0 := by first | exact Nat.eq_zero_of_le_zero h0 | simp_all | lia | omega
theorem zq43 {n0 : Nat} (h0 : n0 ≤ 100) : (↑n0 : Int) ≤ 65536 := by first | lia | grind | omega
theorem zq44 {n0 : Nat} (h0 : n0 ≤ 100) : -65536 ≤ (↑n0 : Int) := by first | exact Int.neg_ofNat_le_natCast 65536 n0 | simp_all | grind | omega
theorem zq45 {n0 : Nat} (h0 : n0 ≤ 201) : n0 ≤ 65536 := by first | lia | grind | omega
theorem zq46 {n0 : Nat} (h0 : n0 ≤ 5000) : n0 ≤ 1000000 := by first | lia | grind | omega
theorem zq47 {n0 : Nat} (h0 : n0 ≤ 6) (h1 : 2 ≤ n0) : n0 ≤ 65536 := by first | lia | grind | omega
theorem zq48 {n0 n1 : Nat} : (↑n0 : Int) + (↑n1 : Int) = (↑(n0 + n1) : Int) := by first | exact Int.ofNat_add_ofNat n0 n1 | rfl | simp_all | omega
theorem zq49 {n0 n1 : Nat} : n0 + n1 * (n0 + 1) + n0 + 1 ≤ n0 + (n1 * (n0 + 1) + (n0 + 1)) := by first | grind | lia | omega
theorem zq50 {n0 n1 : Nat} : n0 + n1 - n0 = n1 := by first | exact Nat.add_sub_self_left n0 n1 | simp_all | omega
theorem zq51 {n0 n1 : Nat} (h0 : 0 < n0) (h1 : n1 = n0 + 1) : n0 = n0 - 1 + 1 := by first | exact Mine.zq37 h0 | omega
theorem zq52 {n0 n1 : Nat} (h0 : 2 ≤ n0) (h1 : n0 ≤ 4) (h2 : 2 ≤ n1) (h3 : n1 ≤ 5) : 3 ≤ n0 + n1 := by first | grind | lia | omega
theorem zq53 {n0 n1 : Nat} (h0 : n0 < n1) : ¬n0 = n1 := by first | exact Nat.ne_of_lt h0 | lia | grind | omega
theorem zq54 {n0 n1 : Nat} (h0 : n0 ≤ 6) (h1 : 0 < n0) (h2 : 3 ≤ n1 + n0) (h3 : n1 < n0) : 2 ≤ n0 := by first | grind | lia | omega
theorem zq55 {n0 n1 : Nat} (h0 : n1 + n0 ≤ 5) : n0 ≤ 65536 := by first | grind | lia | omega
theorem zq56 {n0 n1 : Nat} (h0 : n1 < n0) : n0 - (n1 + 1) < n0 - n1 := by first | exact Nat.sub_succ_lt_self n0 n1 h0 | omega
theorem zq57 {n0 n1 : Nat} (h0 : n1 ≤ 100) (h1 : n0 ≤ n1) : n0 ≤ 65536 := by first | lia | grind | omega
theorem zq58 {n0 n1 n2 : Nat} (h0 : n1 + 1 ≤ n0 ∧ n0 < n1 + 1 + (n2 - (n1 + 1))) : ¬n0 = n1 := by first | grind | lia | omega
theorem zq59 {n0 n1 n2 : Nat} (h0 : n1 < n0) : ¬(n0 ≤ n1 ∧ n1 < n0 + n2) := by first | lia | grind | omega
theorem zq60 {n0 n1 n2 : Nat} (h0 : n2 ≤ n1 + 1) (h1 : n0 < n2) : n0 ≤ n1 := by first | lia | grind | omega
theorem zq61 {n0 n1 n2 n3 : Nat} (h0 : n1 ≤ 5) (h1 : 0 < n1) (h2 : n0 ≤ n2 + 1) (h3 : n3 + (n2 + 1) ≤ n1) : n0 ≤ 65536 := by first | grind | lia | omega
theorem zq62 : 0 ≤ 0 := by first | exact Nat.zero_le 0 | simp_all | decide | omega
theorem zq63 : 10 ≤ 9000 := by first | exact Nat.le_of_ble_eq_true rfl | simp_all | decide | omega
theorem zq64 {i0 : Int} (h0 : -65536 ≤ i0) (h1 : i0 ≤ 65536) (h2 : 0 < i0) : i0 - 0 = (↑(Int.toNat i0) : Int) := by first | grind | lia | (simp; omega) | omega
theorem zq65 {i0 : Int} (h0 : -65536 ≤ i0) (h1 : i0 ≤ 65536) (h2 : ¬0 < i0) : 0 = (↑(Int.toNat i0) : Int) := by first | grind | lia | omega
theorem zq66 {i0 : Int} (h0 : Int.natAbs i0 ≤ 5) : Int.natAbs i0 ≤ 25 := by first | lia | grind | omega
theorem zq67 {i0 : Int} (h0 : ¬0 ≤ i0) : i0 < 0 := by first | exact Int.lt_of_not_ge h0 | simp_all | lia | omega
theorem zq68 {i0 i1 : Int} (h0 : i1 < i0) : i0 - i1 = (↑(Int.toNat (i0 - i1)) : Int) := by first | grind | lia | omega
theorem zq69 {i0 i1 : Int} (h0 : ¬i1 < i0) : 0 = (↑(Int.toNat (i0 - i1)) : Int) := by first | grind | lia | omega
theorem zq70 {n0 : Nat} : -65536 ≤ (↑n0 : Int) + 1 := by first | exact Int.neg_ofNat_le_ofNat 65536 (n0 + 1) | grind | lia | omega
theorem zq71 {n0 : Nat} : -65536 ≤ 0 + (↑n0 : Int) := by first | exact Int.neg_ofNat_le_ofNat 65536 (0 + n0) | simp_all | grind | omega
theorem zq72 {n0 : Nat} : 0 < n0 + 1 := by first | exact Nat.zero_lt_succ n0 | simp_all | grind | omega
theorem zq73 {n0 : Nat} : n0 ≤ n0 + 0 * (n0 + 1) := by first | exact Nat.le_add_right n0 (0 * (n0 + 1)) | simp_all | grind | omega
theorem zq74 {n0 : Nat} (h0 : 0 < n0) : 1 ≤ (↑n0 : Int) := by first | exact (fun {m} {n} => Iff.mp Int.toNat_le) h0 | grind | lia | omega
theorem zq75 {n0 : Nat} (h0 : 0 < n0) : Int.toNat (-1 + (↑n0 : Int)) = n0 - 1 := by first | grind | lia | omega
theorem zq76 {n0 : Nat} (h0 : 2 ≤ n0) : 0 + (n0 - 1) > 0 + 0 := by first | lia | grind | (simp; omega) | omega
theorem zq77 {n0 : Nat} (h0 : 2 ≤ n0) : 0 < (↑n0 : Int) := by first | grind | lia | omega
theorem zq78 {n0 : Nat} (h0 : 2 ≤ n0) : 1 < n0 := by first | assumption | exact Nat.lt_of_succ_le h0 | lia | omega
theorem zq79 {n0 : Nat} (h0 : 2 ≤ n0) (h1 : n0 = 0) : False := by first | simp_all | grind | lia | omega
theorem zq80 {n0 : Nat} (h0 : 2 ≤ n0) (h1 : n0 ≤ 4) : 2 ≤ n0 := by first | assumption | omega
theorem zq81 {n0 : Nat} (h0 : 2 ≤ n0) (h1 : n0 ≤ 4) : n0 ≤ 100 := by first | lia | grind | omega
theorem zq82 {n0 : Nat} (h0 : 2 ≤ n0) (h1 : n0 ≤ 5) : (↑n0 : Int) - 1 = (↑(n0 - 1) : Int) := by first | lia | grind | omega
theorem zq83 {n0 : Nat} (h0 : 2 ≤ n0) (h1 : n0 ≤ 5) : 3 ≤ 2 + n0 := by first | grind | lia | omega
theorem zq84 {n0 : Nat} (h0 : 2 ≤ n0) (h1 : n0 ≤ 5) : n0 - 1 < 1024 := by first | grind | omega
theorem zq85 {n0 : Nat} (h0 : 2 ≤ n0) (h1 : n0 ≤ 5) : n0 ≤ 65536 := by first | lia | grind | omega
theorem zq86 {n0 : Nat} (h0 : 2 ≤ n0) (h1 : n0 ≤ 6) : (↑n0 : Int) - 1 = (↑(n0 - 1) : Int) := by first | lia | grind | omega
theorem zq87 {n0 : Nat} (h0 : 2 ≤ n0) (h1 : n0 ≤ 6) : n0 - 1 ≤ 6 := by first | (simp; omega) | grind | lia | omega
theorem zq88 {n0 : Nat} (h0 : 2 ≤ n0) (h1 : n0 ≤ 6) : n0 ≤ 8 := by first | lia | grind | omega
theorem zq89 {n0 : Nat} (h0 : n0 < 2) : 1 + (↑n0 : Int) ≠ 0 := by first | grind | lia | omega
theorem zq90 {n0 : Nat} (h0 : n0 < 2) : Int.natAbs (1 + (↑n0 : Int)) ≤ 2 := by omega
theorem zq91 {n0 : Nat} (h0 : n0 < 7) : Int.natAbs ((↑n0 : Int) - 3) ≤ 3 := by omega
theorem zq92 {n0 : Nat} (h0 : n0 = 1) : (↑n0 : Int) = 1 := by first | exact (fun {a b} => Iff.mp Int.neg_inj) (congrArg Neg.neg (congrArg Nat.cast h0)) | simp_all | grind | omega
theorem zq93 {n0 : Nat} (h0 : n0 ≤ 100) (h1 : 0 < n0) : 1 ≤ n0 ∧ n0 ≤ 100 := by first | exact ⟨h1, h0⟩ | omega
theorem zq94 {n0 : Nat} (h0 : n0 ≤ 101) : n0 ≤ 101 := by first | assumption | omega
theorem zq95 {n0 : Nat} (h0 : n0 ≤ 5) (h1 : 0 < n0) : n0 ≤ 65536 := by first | lia | grind | omega
theorem zq96 {n0 : Nat} (h0 : n0 ≤ 50) : n0 + 3 ≤ 60 := by first | lia | grind | (simp; omega) | omega
theorem zq97 {n0 : Nat} (h0 : n0 ≤ 5000) : n0 ≤ 5000 := by first | assumption | omega
theorem zq98 {n0 : Nat} (h0 : n0 ≤ 6) (h1 : 0 < n0) : 1 ≤ n0 := by first | assumption | exact Nat.one_le_of_lt h1 | grind | omega
theorem zq99 {n0 : Nat} (h0 : n0 ≤ 60) : n0 + 1 ≤ 1000 := by first | lia | grind | (simp; omega) | omega
theorem zq100 {n0 : Nat} (h0 : n0 ≤ 60) : n0 + 1 ≤ 61 := by first | exact Nat.succ_le_succ h0 | (simp; omega) | simp_all | omega
theorem zq101 {n0 : Nat} (h0 : n0 ≤ 60) : n0 + 1 ≤ 9000 := by first | lia | grind | (simp; omega) | omega
theorem zq102 {n0 : Nat} (h0 : n0 ≤ 63) : n0 ≤ 65536 := by first | lia | grind | omega
theorem zq103 {n0 : Nat} (h0 : ¬n0 = 1) : ¬(↑n0 : Int) = 1 := by first | exact Nat.ToInt.of_diseq rfl rfl h0 | grind | lia | omega
theorem zq104 {n0 n2 : Nat} {i1 : Int} (h0 : -(↑n2 : Int) ≤ i1) (h1 : n0 = n2) : -(↑n0 : Int) ≤ i1 := by first | (subst_vars; omega) | exact le_of_eq_of_le (congrArg Neg.neg (congrArg Nat.cast h1)) h0 | simp_all | omega
theorem zq105 {n0 n1 : Nat} : n0 ≤ n0 + n1 ∧ n0 + n1 < n0 + (n1 + 1) := by first | simp_all | grind | lia | omega
theorem zq106 {n0 n1 : Nat} : ¬(n0 ≤ n0 + n1 ∧ n0 + n1 < n0 + n1) := by first | simp_all | grind | lia | omega
theorem zq107 {n0 n1 : Nat} : ¬(n0 ≤ n1 ∧ n1 < n0 + 0) := by first | simp_all | lia | grind | omega
theorem zq108 {n0 n1 : Nat} (h0 : (n0 + 1) * (n1 - 1) ≤ 61 * 5) : (n0 + 1) * (n1 - 1) + 1 ≤ 1000000 := by first | grind | (simp; omega) | lia | omega
theorem zq109 {n0 n1 : Nat} (h0 : 0 ≤ n0 ∧ n0 < 0 + (n1 - 0)) : n0 < n1 := by first | simp_all | lia | omega
theorem zq110 {n0 n1 : Nat} (h0 : 2 ≤ n0) (h1 : 0 < n1) : n0 - 1 + (n1 + 1 - n0) ≤ n1 - 1 + 1 ∨ n1 + 1 - n0 = 0 := by first | lia | grind | omega
theorem zq111 {n0 n1 : Nat} (h0 : 2 ≤ n0) (h1 : n0 - 1 < n1) : n0 ≤ n1 := by first | exact Nat.le_of_pred_lt h1 | omega
theorem zq112 {n0 n1 : Nat} (h0 : 2 ≤ n0) (h1 : n0 ≤ 4) (h2 : 2 ≤ n1) (h3 : n1 ≤ 5) : 3 ≤ n0 + 1 + n1 := by first | grind | lia | omega
theorem zq113 {n0 n1 : Nat} (h0 : 2 ≤ n1) (h1 : n1 ≤ 6) (h2 : n0 = n1) : 2 ≤ n0 := by first | (subst_vars; omega) | exact le_of_le_of_eq h0 (id (Eq.symm h2)) | simp_all | omega
theorem zq114 {n0 n1 : Nat} (h0 : 2 ≤ n1) (h1 : n1 ≤ 6) (h2 : n0 = n1) : n0 ≤ 6 := by first | exact le_of_eq_of_le h2 h1 | (subst_vars; omega) | simp_all | omega
theorem zq115 {n0 n1 : Nat} (h0 : 3 ≤ n1 + n0) (h1 : 0 < n0) (h2 : 0 < n1) : n0 - 1 + (n1 - 1) > 0 + 0 := by first | lia | grind | omega
theorem zq116 {n0 n1 : Nat} (h0 : n0 * n1 ≤ 5000 * 101) : n0 * n1 + 1 ≤ 1000000 := by first | lia | grind | (simp; omega) | omega
theorem zq117 {n0 n1 : Nat} (h0 : n0 * n1 ≤ 650 * 6) : (↑(n0 * n1) : Int) ≤ 3900 := by first | exact Nat.ToInt.of_le rfl rfl h0 | lia | omega
theorem zq118 {n0 n1 : Nat} (h0 : n0 + 1 = n1 * 8) (h1 : 7 * (n0 + 1) ≤ 1000000) : n0 ≤ 1000000 := by first | lia | grind | omega
theorem zq119 {n0 n1 : Nat} (h0 : n0 < 1) : ¬(1 ≤ n0 ∧ n0 ≤ n1) := by first | simp_all | grind | lia | omega
theorem zq120 {n0 n1 : Nat} (h0 : n0 < n1) : n0 < n1 := by first | assumption | omega
theorem zq121 {n0 n1 : Nat} (h0 : n0 < n1) : n0 ≠ n1 := by first | exact Nat.ne_of_lt h0 | lia | grind | omega
theorem zq122 {n0 n1 : Nat} (h0 : n0 < n1) : n0 ≠ n1 + 1 := by first | lia | grind | omega
theorem zq123 {n0 n1 : Nat} (h0 : n0 < n1) : n0 ≠ n1 + 3 := by first | lia | grind | omega
theorem zq124 {n0 n1 : Nat} (h0 : n0 < n1) : n0 ≠ n1 + 4 := by first | lia | grind | omega
theorem zq125 {n0 n1 : Nat} (h0 : n0 < n1) (h1 : 2 ≤ n0) : (↑n0 : Int) ≠ 0 := by first | grind | lia | omega
theorem zq126 {n0 n1 : Nat} (h0 : n0 ≤ 65536) (h1 : n1 ≤ 65536) : Max.max n0 n1 ≤ 65536 := by first | exact Nat.max_le_of_le_of_le h0 h1 | omega
theorem zq127 {n0 n1 : Nat} (h0 : n0 ≤ n1) (h1 : 0 < n0) : n0 - 1 ≤ n1 - 1 := by first | exact Nat.sub_le_sub_right h0 1 | omega
theorem zq128 {n0 n1 : Nat} (h0 : n0 ≤ n1) (h1 : 2 ≤ n1) (h2 : n1 ≤ 6) : n0 ≤ 65536 := by first | lia | grind | omega
theorem zq129 {n0 n1 : Nat} (h0 : n0 ≤ n1) (h1 : ¬n0 < n1) : n0 = n1 := by first | lia | grind | omega
theorem zq130 {n0 n1 : Nat} (h0 : n1 - 1 = n0) : -65536 ≤ (↑n0 : Int) := by first | exact Int.neg_ofNat_le_natCast 65536 n0 | simp_all | omega
theorem zq131 {n0 n1 : Nat} (h0 : n1 - 1 = n0) : Int.toNat ((↑n0 : Int) - 0) = n0 := by first | exact Nat.add_zero n0 | rfl | simp_all | omega
theorem zq132 {n0 n1 : Nat} (h0 : n1 < n0) : -65536 ≤ (↑n0 : Int) - 1 - (0 + (↑n1 : Int)) := by first | lia | grind | (simp; omega) | omega
theorem zq133 {n0 n1 : Nat} (h0 : n1 < n0) : Int.toNat ((↑n0 : Int) - 1 - (↑n1 : Int)) = n0 - 1 - n1 := by first | simp_all | omega
theorem zq134 {n0 n1 : Nat} (h0 : n1 ≤ n0) : (↑n0 : Int) - (↑n1 : Int) = (↑(n0 - n1) : Int) := by first | exact Eq.symm (Int.ofNat_sub h0) | omega
theorem zq135 {n0 n1 : Nat} (h0 : n1 ≤ n0) : n0 - n1 < n0 + 1 - n1 := by first | grind | lia | omega
theorem zq136 {n0 n1 : Nat} (h0 : n1 ≤ n0) (h1 : 0 < n1) : n0 - n1 = n0 - 1 - (n1 - 1) := by first | exact Eq.symm (Nat.sub_sub_sub_cancel_right h1) | omega
theorem zq137 {n0 n1 : Nat} (h0 : ¬n0 < n1) : ¬(↑n0 : Int) < (↑n1 : Int) := by first | simp_all | lia | omega
theorem zq138 {n0 n1 : Nat} (h0 : ¬n1 ≤ n0) : n0 + 1 - n1 = 0 := by omega
theorem zq139 {n0 n1 n2 : Nat} (h0 : n0 + 1 = n2 * 8) (h1 : 7 * (n0 + 1) ≤ 1000000) (h2 : n1 * (n0 + 1) ≤ 5 * (n0 + 1)) : n0 + n1 * (n0 + 1) ≤ 1000000 := by first | lia | grind | omega
theorem zq140 {n0 n1 n2 : Nat} (h0 : n0 < Min.min n1 n2) : n0 < n1 := by first | grind | lia | omega
theorem zq141 {n0 n1 n2 : Nat} (h0 : n0 < n1) : n0 < n1 + n2 := by first | exact Nat.lt_add_right n2 h0 | omega
theorem zq142 {n0 n1 n2 : Nat} (h0 : n0 ≤ n1 ∧ n1 < n0 + n2) : n0 ≤ n1 ∧ n1 < n0 + (n2 + 1) := by first | lia | grind | omega
theorem zq143 {n0 n1 n2 : Nat} (h0 : n1 ≤ 65536) (h1 : n2 = n1) (h2 : n0 < n1) : n0 < 1048576 := by first | lia | grind | (subst_vars; omega) | omega
theorem zq144 {n0 n1 n2 : Nat} (h0 : n1 ≤ n2) (h1 : n0 < n2) : n0 + 1 - n1 ≤ n2 + 1 - n1 := by first | (simp; omega) | omega
theorem zq145 {n0 n1 n2 : Nat} (h0 : n2 < n1) (h1 : n2 + 1 ≤ n0 ∧ n0 < n2 + 1 + (n1 - (n2 + 1))) : ¬n0 = n1 := by first | lia | grind | omega
theorem zq146 {n0 n1 n2 : Nat} (h0 : n2 ≤ n1) (h1 : 0 < n2) (h2 : 0 < n0) : n0 - 1 + (n1 + 1 - n0) ≤ n1 - 1 + 1 ∨ n1 + 1 - n0 = 0 := by first | lia | grind | omega
theorem zq147 {n0 n1 n2 : Nat} (h0 : ¬n0 < n1) (h1 : n0 - n1 < n2) : n0 < n1 + n2 := by first | grind | lia | omega
theorem zq148 {n0 n1 n2 : Nat} (h0 : ¬n0 < n1) (h1 : ¬n0 - n1 < n2) : ¬n0 < n1 + n2 := by first | lia | grind | omega
theorem zq149 {n0 n1 n2 : Nat} (h0 : ¬n1 = n0 + n2) (h1 : ¬(n0 ≤ n1 ∧ n1 < n0 + n2)) : ¬(n0 ≤ n1 ∧ n1 < n0 + (n2 + 1)) := by first | lia | grind | omega
theorem zq150 {n0 n1 n2 : Nat} {i3 : Int} (h0 : 0 < n0) (h1 : n2 = n0 + 1) (h2 : ¬n0 = 1) (h3 : i3 ≠ 0) (h4 : 0 < n1) : 3 ≤ n0 + n1 := by first | grind | lia | (subst_vars; omega) | omega
theorem zq151 {n0 n1 n2 : Nat} {i3 : Int} (h0 : 3 ≤ n1 + n0) (h1 : 0 < n0) (h2 : n2 = n1 + 1) (h3 : ¬n0 = 1) (h4 : ¬n1 = 1) (h5 : i3 ≠ 0) : 2 ≤ n0 := by first | lia | grind | omega
theorem zq152 {n0 n1 n2 n3 : Nat} (h0 : n1 + 1 + n2 = n3) (h1 : n0 < n1 + 1 + (n2 + 1)) (h2 : ¬n0 = n3) : n0 < n1 + 1 + n2 := by first | lia | grind | (subst_vars; omega) | omega
theorem zq153 {n0 n1 n2 n3 : Nat} (h0 : n2 ≤ 100) (h1 : n3 ≤ 100) (h2 : 0 < n2) (h3 : 0 < n3) (h4 : n2 - 1 = n0) (h5 : n3 - 1 = n1) : (↑n0 : Int) + (↑n1 : Int) ≤ 65536 := by first | lia | grind | (subst_vars; omega) | omega
theorem zq154 {n0 n1 n2 n3 : Nat} (h0 : n2 ≤ n3) (h1 : n1 = n3) (h2 : n0 = n2) : n0 ≤ n1 := by first | (subst_vars; omega) | simp_all | omega
theorem zq155 {n0 n1 n2 n3 : Nat} (h0 : n3 + 1 ≤ n1 + (n2 + 1)) (h1 : n0 < n3) : n0 + 1 ≤ n1 + n2 := by first | lia | grind | omega
theorem zq156 {n0 n1 n2 n3 n4 n5 : Nat} (h0 : n2 + 1 - n1 = n3) (h1 : n3 ≤ 101) (h2 : n1 ≤ n0) (h3 : n0 + 1 ≤ n1 + (n4 + 1)) (h4 : n5 + (n4 + 1) = n3) : n0 - n1 ≤ 32768 := by first | grind | lia | (simp; omega) | omega
theorem zq157 {n0 n1 n2 n3 n4 n5 n6 : Nat} (h0 : n1 ≤ 5) (h1 : 0 < n1) (h2 : n2 ≤ n1) (h3 : 0 < n2) (h4 : n3 = n4) (h5 : n5 + n4 = n2) (h6 : n6 = n2) (h7 : n0 ≤ n2) : n0 ≤ 65536 := by first | lia | grind | omega
theorem zq158 : -1 * -1 = 1 := by first | rfl | decide | exact Int.Internal.Linear.mul_eq_kk (-1) (-1) (-1) (-1) 1 rfl rfl rfl | omega
theorem zq159 : 0 + 1 + 1 + 1 ≤ 16777216 + 2 := by first | exact Nat.le_add_left (0 + 1 + 1 + 1) 16777215 | decide | simp_all | omega
theorem zq160 : 0 ≤ 16777216 := by first | exact Nat.zero_le 16777216 | simp_all | decide | omega
theorem zq161 : 1 * -1 = -1 := by first | exact Int.mul_neg_one 1 | rfl | decide | omega
theorem zq162 : 650 ≤ 1000000 := by first | exact Nat.le_of_ble_eq_true rfl | simp_all | decide | omega
theorem zq163 : ¬0 < (↑0 : Int) := by first | exact Int.lt_irrefl 0 | simp_all | decide | omega
theorem zq164 {i0 : Int} (h0 : 0 < i0) : 0 ≤ i0 := by first | exact Int.le_of_lt h0 | lia | omega
theorem zq165 {i0 : Int} (h0 : 0 ≤ i0) : 0 ≤ i0 * 48271 + 11 := by first | lia | grind | omega
theorem zq166 {i0 : Int} (h0 : 0 ≤ i0) : i0 = (↑(Int.toNat i0) : Int) := by first | exact (fun {a} => Iff.mpr Int.eq_natCast_toNat) h0 | omega
theorem zq167 {i0 : Int} (h0 : 0 ≤ i0) (h1 : ¬i0 = 0) : 0 < i0 := by first | exact Std.lt_of_le_of_ne h0 fun a => h1 (id (Eq.symm a)) | lia | omega
theorem zq168 {i0 : Int} (h0 : Int.natAbs i0 ≤ 25) : Int.natAbs i0 < 128 := by first | lia | omega
theorem zq169 {i0 : Int} (h0 : i0 + 1 = 0) : i0 = 1 ∨ i0 = -1 := by first | grind | lia | omega
theorem zq170 {i0 : Int} (h0 : i0 - 1 = 0) : i0 = 1 ∨ i0 = -1 := by first | lia | grind | omega
theorem zq171 {i0 : Int} (h0 : i0 < 0) : -i0 = (↑(Int.natAbs i0) : Int) := by first | grind | omega
theorem zq172 {i0 : Int} (h0 : i0 ≠ 0) : Int.natAbs i0 ≠ 0 := by first | exact (fun {a} => Iff.mpr Int.natAbs_ne_zero) h0 | (simp; omega) | simp_all | omega
theorem zq173 {i0 : Int} (h0 : i0 ≤ 65536) (h1 : -65536 ≤ i0) : -9223372036854775808 ≤ i0 ∧ i0 < 9223372036854775808 := by first | lia | omega
theorem zq174 {i0 : Int} (h0 : i0 ≤ 65536) (h1 : -65536 ≤ i0) : i0 ≤ 1152921504606846975 := by first | lia | grind | omega
theorem zq175 {i0 : Int} (h0 : i0 ≤ 65536) (h1 : -65536 ≤ i0) : i0 ≤ 16777216 := by first | lia | grind | omega
theorem zq176 {i0 : Int} (h0 : ¬i0 < 0) : i0 = (↑(Int.natAbs i0) : Int) := by first | grind | lia | omega
theorem zq177 {i0 i1 : Int} : i0 + -i1 = i0 - i1 := by first | exact Int.add_neg_eq_sub | rfl | grind | omega
theorem zq178 {i0 i1 : Int} (h0 : 0 ≤ i0) (h1 : 0 ≤ i1) : 0 ≤ i0 + i1 := by first | exact Int.add_nonneg h0 h1 | omega
theorem zq179 {i0 i1 : Int} (h0 : 0 ≤ i0) (h1 : 0 ≤ i1) (h2 : i1 < i0) : 0 < i0 := by first | exact Int.lt_of_le_of_lt h1 h2 | omega
theorem zq180 {i0 i1 : Int} (h0 : 0 ≤ i1) (h1 : 0 ≤ i0) (h2 : i0 < i1) : Int.toNat i0 < Int.toNat i1 := by first | (simp; omega) | grind | lia | omega
theorem zq181 {i0 i1 : Int} (h0 : i0 - i1 = 0) : i0 = i1 := by first | exact Int.eq_of_sub_eq_zero h0 | grind | lia | omega
theorem zq182 {i0 i1 : Int} (h0 : i0 > i1) : i0 = Max.max i1 i0 := by first | lia | grind | omega
theorem zq183 {i0 i1 : Int} (h0 : ¬i1 > i0) : i0 = Max.max i0 i1 := by first | grind | lia | omega
theorem zq184 {i0 i1 i2 : Int} (h0 : i0 * i1 - i2 = 0) : i0 * i1 = i2 := by first | exact Int.eq_of_sub_eq_zero h0 | omega
theorem zq185 {i0 i1 i2 i3 : Int} (h0 : i0 - i1 = i2 * i3) : i0 = i1 + i2 * i3 := by first | exact (fun {b a c} => Iff.mp Int.sub_eq_iff_eq_add') h0 | lia | grind | omega
theorem zq186 {n4 : Nat} {i0 i1 i2 i3 : Int} (h0 : n4 < 0) : i0 = i1 + i2 * i3 := by first | simp_all | grind | lia | omega
theorem zq187 {n3 n4 : Nat} {i0 i1 i2 : Int} (h0 : n3 + n4 ≤ 0) (h1 : 3 ≤ n3 + n4) : i0 = i1 * i2 := by first | simp_all | grind | lia | omega
theorem zq188 {n3 n4 n5 : Nat} {i0 i1 i2 : Int} (h0 : Int.natAbs i2 ≤ n3 * (n4 * n5)) (h1 : Int.natAbs (i0 * i1 - i2) ≤ Int.natAbs (i0 * i1) + Int.natAbs i2) (h2 : Int.natAbs (i0 * i1) ≤ n4 * n5) : Int.natAbs (i0 * i1 - i2) ≤ n3 * (n4 * n5) + n4 * n5 := by first | grind | lia | omega
theorem zq189 {n3 n4 n5 n6 n7 : Nat} {i0 i1 i2 : Int} (h0 : n3 + 1 + n4 = n5 + (n6 + 1)) (h1 : n7 + n5 > n4) (h2 : n7 ≤ n6) (h3 : 0 + 1 + n4 = n5 + (n6 + 1)) : i0 = i1 * i2 := by first | lia | grind | omega
theorem zq190 {n2 : Nat} {i0 i1 : Int} (h0 : Int.natAbs i0 < n2) (h1 : Int.natAbs i1 < n2) (h2 : Int.natAbs (i0 + i1) ≤ Int.natAbs i0 + Int.natAbs i1) : Int.natAbs (i0 + i1) < n2 * 2 := by first | grind | lia | omega
theorem zq191 {n1 : Nat} {i0 : Int} (h0 : 0 ≤ i0) (h1 : Int.natAbs i0 = n1) : (↑(Int.natAbs i0) : Int) = i0 := by first | exact Int.natAbs_of_nonneg h0 | lia | grind | omega
theorem zq192 {n1 : Nat} {i0 : Int} (h0 : 1 ≤ n1) (h1 : n1 ≤ 100) (h2 : i0 < (↑n1 : Int)) : Int.toNat i0 < n1 := by first | exact (fun {m} {n} hn => Iff.mpr (Int.toNat_lt' hn)) h0 h2 | omega
theorem zq193 {n1 : Nat} {i0 : Int} (h0 : Int.natAbs i0 * Int.natAbs ((↑n1 : Int) + 1) ≤ 25 * 3) : Int.natAbs i0 * Int.natAbs ((↑n1 : Int) + 1) < 128 := by first | lia | omega
theorem zq194 {n1 : Nat} {i0 : Int} (h0 : Int.natAbs i0 ≤ n1) (h1 : 0 < n1) : Int.natAbs i0 < n1 * 2 := by first | grind | lia | omega
theorem zq195 {n1 : Nat} {i0 i2 : Int} (h0 : i2 = i0) (h1 : 0 ≤ i2 ∧ i2 < (↑n1 : Int)) : Int.natAbs i0 < n1 := by first | lia | grind | (subst_vars; omega) | omega
theorem zq196 {n1 n2 : Nat} {i0 : Int} (h0 : n1 < 7) (h1 : n2 < 2) (h2 : i0 = (↑n1 : Int) - 3 ∨ i0 = 1 + (↑n2 : Int)) : Int.natAbs i0 < 1024 := by omega
theorem zq197 {n1 n2 : Nat} {i0 : Int} (h0 : n2 < n1) (h1 : 0 ≤ i0) (h2 : i0 < (↑n2 : Int)) : Int.natAbs i0 < n1 := by first | lia | grind | omega
theorem zq198 {n1 n2 : Nat} {i0 : Int} (h0 : n2 < n1) (h1 : 2 ≤ n2) (h2 : Int.natAbs i0 < n2) : Int.natAbs i0 < n1 := by first | exact Nat.lt_trans h2 h0 | omega
theorem zq199 {n1 n2 n3 n5 : Nat} {i0 i4 : Int} (h0 : n2 ≤ 100) (h1 : Int.natAbs i0 < n1) (h2 : n3 < n2) (h3 : i4 ≠ 0) (h4 : n3 ≤ n5) (h5 : ¬n5 = n3) : Int.natAbs (-i0) < n1 := by first | (simp; omega) | simp_all | omega
theorem zq200 {n0 : Nat} : (↑(n0 * (n0 - 1)) : Int) / 2 % 2 = (↑(n0 * (n0 - 1) / 2 % 2) : Int) := by first | rfl | simp_all | exact Eq.symm (Nat.ToInt.mod_congr rfl rfl) | omega
theorem zq201 {n0 : Nat} : (↑(n0 + 1) : Int) - 1 = (↑n0 : Int) := by first | exact (fun {b a c} => Iff.mpr Int.sub_eq_iff_eq_add) rfl | simp_all | grind | omega
theorem zq202 {n0 : Nat} : (↑(n0 - 1 - 1) : Int) + 1 ≠ 0 := by first | exact Ne.symm (not_eq_of_beq_eq_false rfl) | grind | lia | omega
theorem zq203 {n0 : Nat} : (↑n0 : Int) / 2 = (↑(n0 / 2) : Int) := by first | rfl | simp_all | exact Eq.symm (Nat.ToInt.div_congr rfl rfl) | omega
theorem zq204 {n0 : Nat} : -65536 ≤ (↑n0 : Int) := by first | exact Int.neg_ofNat_le_natCast 65536 n0 | simp_all | grind | omega
theorem zq205 {n0 : Nat} : 0 + 1 + n0 = n0 + 1 - 0 := by first | grind | lia | (simp; omega) | omega
theorem zq206 {n0 : Nat} : 0 + n0 = n0 := by first | exact Nat.zero_add n0 | simp_all | grind | omega
theorem zq207 {n0 : Nat} : 0 + n0 ≤ n0 := by first | simp_all | grind | lia | omega
theorem zq208 {n0 : Nat} : 0 < (↑(n0 + 1) : Int) := by first | exact Int.ofNat_succ_pos n0 | simp_all | omega
theorem zq209 {n0 : Nat} : 0 ≤ (↑(n0 + 1) : Int) - 1 := by first | simp_all | grind | lia | omega
theorem zq210 {n0 : Nat} : 0 ≤ n0 := by first | exact Nat.zero_le n0 | simp_all | grind | omega
theorem zq211 {n0 : Nat} : 1 + n0 > n0 := by first | simp_all | grind | lia | omega
theorem zq212 {n0 : Nat} : 1 ≤ n0 + 1 ∧ n0 + 1 ≤ n0 + 1 := by first | simp_all | grind | lia | omega
theorem zq213 {n0 : Nat} : 2 * n0 / 2 = n0 := by first | simp_all | omega
theorem zq214 {n0 : Nat} : Int.toNat ((↑(n0 + 1) : Int) - 1) = n0 := by first | simp_all | omega
theorem zq215 {n0 : Nat} : Int.toNat ((↑n0 : Int) + 1 - 0) = n0 + 1 := by first | rfl | exact Eq.symm (Nat.add_succ n0 0) | simp_all | omega
theorem zq216 {n0 : Nat} : n0 + 1 - n0 = 1 := by first | exact Nat.add_sub_self_left n0 1 | simp_all | omega
theorem zq217 {n0 : Nat} : n0 + 1 ≠ n0 + 4 := by first | simp_all | grind | lia | omega
theorem zq218 {n0 : Nat} : n0 + 2 ≠ n0 := by first | simp_all | grind | lia | omega
theorem zq219 {n0 : Nat} : n0 + 2 ≠ n0 + 1 := by first | exact Ne.symm (Nat.ne_add_one (n0 + 1)) | simp_all | grind | omega
theorem zq220 {n0 : Nat} : n0 + 2 ≠ n0 + 3 := by first | exact Nat.ne_add_one (n0 + 2) | simp_all | grind | omega
theorem zq221 {n0 : Nat} : n0 + 2 ≠ n0 + 4 := by first | simp_all | grind | lia | omega
theorem zq222 {n0 : Nat} : n0 + 2 ≤ n0 + 1 + 1 := by first | exact Nat.le_refl (n0 + 2) | simp_all | grind | omega
theorem zq223 {n0 : Nat} : n0 + 3 ≠ n0 := by first | simp_all | grind | lia | omega
theorem zq224 {n0 : Nat} : n0 + 3 ≠ n0 + 1 := by first | simp_all | grind | lia | omega
theorem zq225 {n0 : Nat} : n0 + 3 ≠ n0 + 4 := by first | exact Nat.ne_add_one (n0 + 3) | simp_all | grind | omega
theorem zq226 {n0 : Nat} : n0 ≠ n0 + 1 := by first | exact Nat.ne_add_one n0 | simp_all | grind | omega
theorem zq227 {n0 : Nat} : n0 ≠ n0 + 4 := by first | simp_all | grind | lia | omega
theorem zq228 {n0 : Nat} : n0 ≤ n0 := by first | exact Nat.le_refl n0 | simp_all | grind | omega
theorem zq229 {n0 : Nat} : n0 ≤ n0 + 2 := by first | exact Nat.le_add_right n0 2 | simp_all | grind | omega
theorem zq230 {n0 : Nat} : n0 ≤ n0 + 4 := by first | exact Nat.le_add_right n0 4 | simp_all | grind | omega
theorem zq231 {n0 : Nat} : ¬n0 + 1 < n0 + 1 := by first | exact Nat.lt_irrefl (n0 + 1) | simp_all | grind | omega
theorem zq232 {n0 : Nat} : ¬n0 + 1 = 0 := by first | exact Nat.add_one_ne_zero n0 | grind | lia | omega
theorem zq233 {n0 : Nat} : ¬n0 + 1 ≤ n0 := by first | exact Nat.not_succ_le_self n0 | simp_all | grind | omega
theorem zq234 {n0 : Nat} (h0 : (2 * n0 + 1) % 2 = 1) : (2 * n0 + 1) / 2 = n0 := by first | grind | lia | omega
theorem zq235 {n0 : Nat} (h0 : 0 < n0) : (↑n0 : Int) - 1 = (↑(n0 - 1) : Int) := by first | lia | grind | omega
theorem zq236 {n0 : Nat} (h0 : 0 < n0) : 0 < (↑n0 : Int) := by first | exact (fun {n} => Iff.mpr Int.natCast_pos) h0 | (simp; omega) | simp_all | omega
theorem zq237 {n0 : Nat} (h0 : 0 < n0) : 1 ≤ n0 := by first | assumption | exact Nat.one_le_of_lt h0 | grind | omega
theorem zq238 {n0 : Nat} (h0 : 0 < n0) : 3 ≤ 2 + n0 := by first | exact (fun {a b c} => Iff.mp Nat.sub_le_iff_le_add') h0 | grind | lia | omega
theorem zq239 {n0 : Nat} (h0 : 0 < n0) : n0 + 1 - 1 - 1 = n0 - 1 := by first | exact Nat.succ_sub_succ_eq_sub n0 1 | simp_all | rfl | omega
theorem zq240 {n0 : Nat} (h0 : 0 < n0) : n0 ≤ n0 + 1 - 1 := by first | exact Nat.le_refl n0 | simp_all | grind | omega
theorem zq241 {n0 : Nat} (h0 : 0 < n0) : n0 ≤ n0 - 1 + 1 := by first | lia | omega
theorem zq242 {n0 : Nat} (h0 : 0 < n0) : ¬n0 + 1 - 1 < 1 := by first | exact (fun {a b} => Iff.mpr Nat.not_lt) h0 | grind | lia | omega
theorem zq243 {n0 : Nat} (h0 : 0 < n0) (h1 : ¬2 ≤ n0) : n0 = 1 := by first | grind | lia | omega
theorem zq244 {n0 : Nat} (h0 : 0 < n0 + 1) : 0 < n0 + 1 := by first | assumption | omega
theorem zq245 {n0 : Nat} (h0 : 0 = 2 * n0) : n0 = 0 := by first | lia | grind | omega
theorem zq246 {n0 : Nat} (h0 : 1 < n0) : 1 < (↑n0 : Int) := by first | exact Int.lt_of_toNat_lt h0 | omega
theorem zq247 {n0 : Nat} (h0 : 1 < n0) : 1 ≤ n0 := by first | exact Nat.one_le_of_lt h0 | grind | lia | omega
theorem zq248 {n0 : Nat} (h0 : 1 ≤ n0) : ((↑n0 : Int) - 1) % 2 = (↑((n0 - 1) % 2) : Int) := by first | grind | lia | omega
theorem zq249 {n0 : Nat} (h0 : 1 ≤ n0) : (↑n0 : Int) - 1 = (↑(n0 - 1) : Int) := by first | exact Mine.zq235 h0 | omega
theorem zq250 {n0 : Nat} (h0 : 1 ≤ n0) : 1 ≤ n0 ∧ n0 ≤ n0 := by first | (simp; omega) | simp_all | grind | omega
theorem zq251 {n0 : Nat} (h0 : 1 ≤ n0) : 1 ≤ n0 ∧ n0 ≤ n0 + 1 := by first | (simp; omega) | simp_all | grind | omega
theorem zq252 {n0 : Nat} (h0 : 1 ≤ n0) : n0 + (n0 - 1) - (n0 - 1) - (n0 - 1) - 1 = 0 := by first | simp_all | omega
theorem zq253 {n0 : Nat} (h0 : 1 ≤ n0) : n0 - (n0 - 1) = 1 := by first | exact Nat.sub_sub_self h0 | omega
theorem zq254 {n0 : Nat} (h0 : 1 ≤ n0) (h1 : n0 ≤ 100) : (↑n0 : Int) ≠ 0 := by first | exact (fun {n} => Iff.mpr Int.natCast_ne_zero_iff_pos) h0 | grind | lia | omega
theorem zq255 {n0 : Nat} (h0 : 1 ≤ n0) (h1 : n0 ≤ 100) : 0 < (↑n0 : Int) := by first | exact (fun {n} => Iff.mpr Int.natCast_pos) h0 | grind | lia | omega
theorem zq256 {n0 : Nat} (h0 : 1 ≤ n0) (h1 : n0 ≤ 100) : n0 < 1024 := by first | lia | grind | omega
theorem zq257 {n0 : Nat} (h0 : 1 ≤ n0) (h1 : n0 ≤ 4) : n0 ≤ 100 := by first | lia | grind | omega
theorem zq258 {n0 : Nat} (h0 : 2 ≤ n0) : 0 < n0 := by first | exact Nat.zero_lt_of_lt h0 | grind | lia | omega
theorem zq259 {n0 : Nat} (h0 : 2 ≤ n0) : 2 ≤ n0 := by first | assumption | omega
theorem zq260 {n0 : Nat} (h0 : 2 ≤ n0) : 3 ≤ n0 + (n0 - 1) := by first | lia | grind | omega
theorem zq261 {n0 : Nat} (h0 : 2 ≤ n0) : Nat.succ (Nat.succ (n0 - 2)) = n0 := by first | grind | lia | omega
theorem zq262 {n0 : Nat} (h0 : 2 ≤ n0) : n0 - 1 + 1 = n0 := by first | lia | grind | omega
theorem zq263 {n0 : Nat} (h0 : 2 ≤ n0) : n0 - 1 - 1 + 1 = n0 - 1 := by first | grind | lia | omega
theorem zq264 {n0 : Nat} (h0 : 2 ≤ n0) : n0 - 1 < n0 := by first | exact Nat.sub_one_lt_of_lt h0 | omega
theorem zq265 {n0 : Nat} (h0 : 2 ≤ n0) : n0 = n0 - 1 + 1 := by first | lia | grind | omega
theorem zq266 {n0 : Nat} (h0 : 2 ≤ n0) : n0 = n0 - 2 + 2 := by first | simp_all | exact (fun {b a c} h => Iff.mp (Nat.sub_eq_iff_eq_add h)) h0 rfl | omega
theorem zq267 {n0 : Nat} (h0 : 2 ≤ n0) (h1 : 0 = n0 - 1) : False := by first | lia | grind | omega
theorem zq268 {n0 : Nat} (h0 : 2 ≤ n0) (h1 : n0 ≤ 3) : 2 ≤ n0 + 1 := by first | exact Nat.le_add_right_of_le h0 | grind | lia | omega
theorem zq269 {n0 : Nat} (h0 : 2 ≤ n0) (h1 : n0 ≤ 3) : n0 + 1 ≤ 4 := by first | exact Nat.succ_le_succ h1 | (simp; omega) | simp_all | omega
theorem zq270 {n0 : Nat} (h0 : 2 ≤ n0) (h1 : n0 ≤ 3) : n0 ≤ 100 := by first | lia | grind | omega
theorem zq271 {n0 : Nat} (h0 : 2 ≤ n0) (h1 : n0 ≤ 3) : n0 ≤ 4 := by first | exact Nat.le_succ_of_le h1 | lia | grind | omega
theorem zq272 {n0 : Nat} (h0 : 2 ≤ n0) (h1 : n0 ≤ 4) : (↑n0 : Int) - 1 = (↑(n0 - 1) : Int) := by first | lia | grind | omega
theorem zq273 {n0 : Nat} (h0 : 2 ≤ n0) (h1 : n0 ≤ 4) : 2 ≤ n0 + 1 := by first | exact Nat.le_add_right_of_le h0 | grind | lia | omega
theorem zq274 {n0 : Nat} (h0 : 2 ≤ n0) (h1 : n0 ≤ 4) : n0 + 1 ≤ 5 := by first | exact Nat.succ_le_succ h1 | (simp; omega) | simp_all | omega
theorem zq275 {n0 : Nat} (h0 : 2 ≤ n0) (h1 : n0 ≤ 4) : n0 + 1 ≤ 6 := by first | lia | grind | (simp; omega) | omega
theorem zq276 {n0 : Nat} (h0 : 2 ≤ n0) (h1 : n0 ≤ 4) : n0 - 1 < 1024 := by first | grind | omega
theorem zq277 {n0 : Nat} (h0 : 2 ≤ n0) (h1 : n0 ≤ 4) : n0 - 1 < n0 := by first | exact Nat.sub_one_lt_of_lt h0 | omega
theorem zq278 {n0 : Nat} (h0 : 2 ≤ n0) (h1 : n0 ≤ 4) : n0 ≤ 8 := by first | lia | grind | omega
theorem zq279 {n0 : Nat} (h0 : 2 ≤ n0) (h1 : n0 ≤ 4) (h2 : 0 = n0 - 1) : False := by first | lia | grind | omega
theorem zq280 {n0 : Nat} (h0 : 2 ≤ n0) (h1 : n0 ≤ 6) : 1 ≤ n0 - 1 := by first | exact Nat.le_sub_one_of_lt h0 | omega
theorem zq281 {n0 : Nat} (h0 : 2 ≤ n0) (h1 : n0 ≤ 6) : 3 ≤ n0 + (n0 - 1) := by first | exact Mine.zq260 h0 | omega
theorem zq282 {n0 : Nat} (h0 : 2 ≤ n0) (h1 : n0 ≤ 6) : Int.natAbs ((↑(n0 - 1) : Int) - 1) < 1024 := by first | grind | omega
theorem zq283 {n0 : Nat} (h0 : 2 ≤ n0) (h1 : n0 ≤ 6) : n0 - 1 < 1024 := by first | grind | omega
theorem zq284 {n0 : Nat} (h0 : 2 ≤ n0) (h1 : n0 ≤ 6) : n0 - 1 < n0 := by first | exact Nat.sub_one_lt_of_lt h0 | omega
theorem zq285 {n0 : Nat} (h0 : 2 ≤ n0) (h1 : n0 ≤ 6) : n0 - 1 ≤ 10 := by first | (simp; omega) | grind | lia | omega
theorem zq286 {n0 : Nat} (h0 : 2 ≤ n0) (h1 : n0 ≤ 6) : n0 - 1 ≤ 5 := by first | exact Nat.sub_le_of_le_add h1 | (simp; omega) | simp_all | omega
theorem zq287 {n0 : Nat} (h0 : 2 ≤ n0) (h1 : n0 ≤ 6) : ¬(↑(n0 - 1) : Int) < 1 := by first | lia | grind | omega
theorem zq288 {n0 : Nat} (h0 : 2 ≤ n0) (h1 : n0 ≤ 6) (h2 : 0 = n0 - 1) : False := by first | exact Mine.zq267 h0 h2 | omega
theorem zq289 {n0 : Nat} (h0 : n0 % 2 = 1) : n0 = 2 * (n0 / 2) + 1 := by first | grind | lia | omega
theorem zq290 {n0 : Nat} (h0 : n0 % 2 = 1) (h1 : (n0 + 1) % 2 = 1) : -1 * -1 = -1 := by omega
theorem zq291 {n0 : Nat} (h0 : n0 < 1) : n0 = 0 := by first | exact (fun {n} => Iff.mp Nat.lt_one_iff) h0 | simp_all | lia | omega
theorem zq292 {n0 : Nat} (h0 : n0 < 5) : 1 + (↑n0 : Int) ≠ 0 := by first | grind | lia | omega
theorem zq293 {n0 : Nat} (h0 : n0 < 5) : Int.natAbs (1 + (↑n0 : Int)) ≤ 5 := by omega
theorem zq294 {n0 : Nat} (h0 : n0 < 9) : Int.natAbs ((↑n0 : Int) - 4) ≤ 5 := by omega
theorem zq295 {n0 : Nat} (h0 : n0 = 0) : (↑n0 : Int) = 0 := by first | exact (fun {n} => Iff.mpr Int.ofNat_eq_zero) h0 | (simp; omega) | simp_all | omega
theorem zq296 {n0 : Nat} (h0 : n0 ≠ 0) (h1 : ¬n0 = 1) : 2 ≤ n0 := by first | grind | lia | omega
theorem zq297 {n0 : Nat} (h0 : n0 ≤ 1) : Max.max (0 + 1) n0 ≤ 1 := by first | simp_all | lia | omega
theorem zq298 {n0 : Nat} (h0 : n0 ≤ 1) : n0 + 1 ≤ 64 := by first | lia | grind | (simp; omega) | omega
theorem zq299 {n0 : Nat} (h0 : n0 ≤ 1) (h1 : 0 < n0) : n0 = 1 := by first | exact Eq.symm (Nat.le_antisymm h1 h0) | grind | lia | omega
theorem zq300 {n0 : Nat} (h0 : n0 ≤ 100) : Int.toNat ((↑n0 : Int) - 0) = n0 := by first | exact Nat.add_zero n0 | rfl | simp_all | omega
theorem zq301 {n0 : Nat} (h0 : n0 ≤ 101) : 0 ≤ (↑n0 : Int) := by first | exact Int.natCast_nonneg n0 | simp_all | grind | omega
theorem zq302 {n0 : Nat} (h0 : n0 ≤ 32768) : (↑n0 : Int) ≤ 65536 := by first | lia | grind | omega
theorem zq303 {n0 : Nat} (h0 : n0 ≤ 32768) : -65536 ≤ (↑n0 : Int) := by first | exact Int.neg_ofNat_le_natCast 65536 n0 | simp_all | grind | omega
theorem zq304 {n0 : Nat} (h0 : n0 ≤ 32768) : n0 ≤ 65536 := by first | lia | grind | omega
theorem zq305 {n0 : Nat} (h0 : n0 ≤ 32768) (h1 : 0 < n0) : 0 < n0 := by first | assumption | omega
theorem zq306 {n0 : Nat} (h0 : n0 ≤ 32768) (h1 : 0 < n0) : n0 ≤ 65536 := by first | lia | grind | omega
theorem zq307 {n0 : Nat} (h0 : n0 ≤ 5) : 0 + n0 ≤ 5 := by first | (simp; omega) | simp_all | lia | omega
theorem zq308 {n0 : Nat} (h0 : n0 ≤ 5) (h1 : 0 < n0) : 1 < (↑n0 : Int) ↔ 1 < n0 := by first | lia | grind | omega
theorem zq309 {n0 : Nat} (h0 : n0 ≤ 50) : n0 + 1 ≤ 1000000 := by first | lia | grind | (simp; omega) | omega
theorem zq310 {n0 : Nat} (h0 : n0 ≤ 50) : n0 + 1 ≤ 9000 := by first | lia | grind | (simp; omega) | omega
theorem zq311 {n0 : Nat} (h0 : n0 ≤ 5000) : n0 + 1 ≤ 5001 := by first | exact Nat.succ_le_succ h0 | (simp; omega) | simp_all | omega
theorem zq312 {n0 : Nat} (h0 : n0 ≤ 6) (h1 : 2 ≤ n0) : (↑n0 : Int) - 1 = (↑(n0 - 1) : Int) := by first | lia | grind | omega
theorem zq313 {n0 : Nat} (h0 : n0 ≤ 6) (h1 : 2 ≤ n0) : 0 < n0 - 1 := by first | exact Nat.zero_lt_sub_of_lt h1 | omega
theorem zq314 {n0 : Nat} (h0 : n0 ≤ 6) (h1 : 2 ≤ n0) : 1 ≤ n0 := by first | exact Nat.one_le_of_lt h1 | grind | lia | omega
theorem zq315 {n0 : Nat} (h0 : n0 ≤ 6) (h1 : 2 ≤ n0) : n0 ≤ 100 := by first | lia | grind | omega
theorem zq316 {n0 : Nat} (h0 : n0 ≤ 63) : Min.min 24 n0 ≤ 65536 := by first | lia | grind | omega
theorem zq317 {n0 : Nat} (h0 : n0 ≤ 65536) : n0 ≤ 16777216 := by first | lia | grind | omega
theorem zq318 {n0 : Nat} (h0 : n0 ≤ 65536) (h1 : 0 < n0) : 0 < n0 := by first | assumption | omega
theorem zq319 {n0 : Nat} (h0 : ¬(n0 - 1) * (n0 - 1 - 1) / 2 % 2 = 1) : ¬(↑((n0 - 1) * (n0 - 1 - 1) / 2 % 2) : Int) = 1 := by first | exact Nat.ToInt.of_diseq rfl rfl h0 | simp_all | omega
theorem zq320 {n0 : Nat} (h0 : ¬0 < n0) : n0 = 0 := by first | exact Nat.eq_zero_of_not_pos h0 | simp_all | lia | omega
theorem zq321 {n0 : Nat} (h0 : ¬0 < n0) : ¬0 < (↑n0 : Int) := by first | simp_all | lia | grind | omega
theorem zq322 {n0 : Nat} (h0 : ¬1 < n0) : (↑n0 : Int) ≤ 1 := by first | lia | omega
theorem zq323 {n0 : Nat} (h0 : ¬1 < n0) : n0 ≤ 1 := by first | exact Nat.le_of_not_lt h0 | simp_all | lia | omega
theorem zq324 {n0 : Nat} (h0 : ¬1 < n0) (h1 : 0 < n0) : n0 ≤ 65536 := by first | grind | lia | omega
theorem zq325 {n0 : Nat} (h0 : ¬1 ≤ n0) : ¬(1 ≤ n0 ∧ n0 ≤ n0 + 1) := by first | exact (fun {a b} => Iff.mpr not_and) fun a a_1 => h0 a | simp_all | grind | omega
theorem zq326 {n0 : Nat} (h0 : ¬1 ≤ n0) : ¬(1 ≤ n0 ∧ n0 ≤ n0) := by first | exact (fun {a b} => Iff.mpr not_and) fun a a_1 => h0 a | simp_all | grind | omega
theorem zq327 {n0 : Nat} (h0 : ¬n0 % 2 = 1) : n0 = 2 * (n0 / 2) := by first | lia | grind | omega
theorem zq328 {n0 : Nat} (h0 : ¬n0 % 2 = 1) (h1 : ¬(n0 + 1) % 2 = 1) : 1 * -1 = 1 := by first | lia | grind | (simp; omega) | omega
theorem zq329 {n0 : Nat} (h0 : ¬n0 = 0) : ¬(↑n0 : Int) = 0 := by first | exact (fun {n} => Iff.mpr Int.ofNat_ne_zero) h0 | (simp; omega) | simp_all | omega
theorem zq330 {n0 : Nat} (h0 : ¬n0 = 1) (h1 : n0 ≠ 0) : 2 ≤ n0 := by first | grind | lia | omega
theorem zq331 {n0 : Nat} (h0 : ¬n0 ≤ 1) : 1 < n0 := by first | simp_all | exact Mine.zq30 h0 | lia | omega
theorem zq332 {n0 : Nat} {i1 : Int} (h0 : 0 < n0) (h1 : i1 = (↑(n0 % 2) : Int)) : n0 / 2 < n0 := by first | lia | grind | (subst_vars; omega) | omega
theorem zq333 {n0 : Nat} {i1 : Int} (h0 : 2 ≤ n0) (h1 : n0 ≤ 4) (h2 : ¬i1 = 0) : n0 - 1 ≤ 10 := by first | (simp; omega) | grind | lia | omega
theorem zq334 {n0 : Nat} {i1 : Int} (h0 : i1 = (↑(n0 % 2) : Int)) (h1 : ¬n0 % 2 = 1) : ¬(↑(n0 % 2) : Int) = 1 := by first | exact Mine.zq103 h1 | simp_all | omega
theorem zq335 {n0 : Nat} {i1 i2 : Int} : 1 ≤ n0 → n0 = 0 → 0 = i1 * i2 := by first | grind | lia | omega
theorem zq336 {n0 n2 : Nat} {i1 : Int} (h0 : i1 ≠ 0) (h1 : 0 ≤ i1 ∧ i1 < (↑n2 : Int)) (h2 : i1 = (↑n0 : Int)) : 0 < n0 := by first | lia | grind | (subst_vars; omega) | omega
theorem zq337 {n0 n1 : Nat} : (↑((n0 - 1) * (n1 - 1)) : Int) % 2 = (↑((n0 - 1) * (n1 - 1) % 2) : Int) := by first | rfl | simp_all | exact Eq.symm (Nat.ToInt.mod_congr rfl rfl) | omega
theorem zq338 {n0 n1 : Nat} : (↑(n0 * n1 + 1) : Int) - 1 = (↑(n0 * n1) : Int) := by first | exact (fun {b a c} => Iff.mpr Int.sub_eq_iff_eq_add) rfl | simp_all | grind | omega
theorem zq339 {n0 n1 : Nat} : (↑n0 : Int) % (↑n1 : Int) = (↑(n0 % n1) : Int) := by first | exact Int.ofNat_mod_ofNat n0 n1 | rfl | simp_all | omega
theorem zq340 {n0 n1 : Nat} : (↑n0 : Int) + 1 + (↑n1 : Int) = (↑(n0 + 1 + n1) : Int) := by first | rfl | simp_all | exact (fun {a} {n} => Iff.mp Int.mem_toNat?) rfl | omega
theorem zq341 {n0 n1 : Nat} : -65536 ≤ Max.max (↑n0 : Int) (↑n1 : Int) := by first | grind | lia | omega
theorem zq342 {n0 n1 : Nat} : n0 * n1 + 1 + n0 ≤ n0 * n1 + n0 + 1 := by first | grind | lia | omega
theorem zq343 {n0 n1 : Nat} : n0 + 1 - 1 - (n1 + 1) = n0 - 1 - n1 := by first | exact Nat.add_sub_sub_add_right n0 1 n1 1 | grind | lia | omega
theorem zq344 {n0 n1 : Nat} : n0 + n1 ≤ n1 + n0 := by first | grind | lia | omega
theorem zq345 {n0 n1 : Nat} : n0 - 1 + n1 - (n0 - 1) = n1 := by first | exact Nat.add_sub_self_left (n0 - 1) n1 | simp_all | omega
theorem zq346 {n0 n1 : Nat} : n0 - n1 = n0 + 1 - (n1 + 1) := by first | exact Eq.symm (Nat.add_sub_add_right n0 1 n1) | simp_all | grind | omega
theorem zq347 {n0 n1 : Nat} : n0 < n0 + 1 + n1 := by first | grind | lia | omega
theorem zq348 {n0 n1 : Nat} : n0 ≤ n0 + 0 * (n1 + 1) + 1 := by first | simp_all | grind | lia | omega
theorem zq349 {n0 n1 : Nat} : n0 ≤ n0 + 1 + n1 := by first | grind | lia | omega
theorem zq350 {n0 n1 : Nat} : ¬n0 + n1 < n0 := by first | simp_all | grind | lia | omega
theorem zq351 {n0 n1 : Nat} : ¬n0 - 1 + n1 < n0 - 1 := by first | simp_all | grind | lia | omega
theorem zq352 {n0 n1 : Nat} (h0 : (0 + 1) * (1 + n0) = (n1 + 1) * 1) : (0 + 1) * (1 + (1 + n0)) = (n1 + 1 + 1) * 1 := by first | grind | lia | omega
theorem zq353 {n0 n1 : Nat} (h0 : (↑n0 : Int) < (↑n1 : Int)) : n0 < n1 := by first | simp_all | exact (fun {n m} => Iff.mp Int.ofNat_lt) h0 | omega
theorem zq354 {n0 n1 : Nat} (h0 : (↑n0 : Int) = (↑n1 : Int)) : n0 = n1 := by first | exact (fun {m n} => Iff.mp Int.ofNat_inj) h0 | grind | lia | omega
theorem zq355 {n0 n1 : Nat} (h0 : 0 < n1) (h1 : n0 = n1 + 1) : 2 ≤ n0 := by first | grind | lia | (subst_vars; omega) | omega
theorem zq356 {n0 n1 : Nat} (h0 : 1 ≤ n1) (h1 : n0 ≤ n1) : n0 < 2 + (n1 - 1) := by first | grind | lia | omega
theorem zq357 {n0 n1 : Nat} (h0 : 1 ≤ n1) (h1 : n1 ≤ 4) (h2 : n0 < n1) : (↑n0 : Int) + 1 ≤ 65536 := by first | lia | grind | omega
theorem zq358 {n0 n1 : Nat} (h0 : 2 ≤ n0) (h1 : n0 < n1) : (↑n0 : Int) - 2 = (↑(n0 - 2) : Int) := by first | grind | omega
theorem zq359 {n0 n1 : Nat} (h0 : 2 ≤ n0) (h1 : n0 < n1) : (↑n0 : Int) ≠ 0 := by first | grind | lia | omega
theorem zq360 {n0 n1 : Nat} (h0 : 2 ≤ n0) (h1 : n0 < n1) : 1 < n0 := by first | assumption | exact Nat.lt_of_succ_le h0 | lia | omega
theorem zq361 {n0 n1 : Nat} (h0 : 2 ≤ n0) (h1 : n0 ≤ 4) (h2 : n1 = n0 - 1) : 1 ≤ n0 - 1 := by first | exact Nat.le_sub_one_of_lt h0 | omega
theorem zq362 {n0 n1 : Nat} (h0 : 2 ≤ n0) (h1 : n0 ≤ 4) (h2 : n1 = n0 - 1) : 3 ≤ n0 + n1 := by first | grind | lia | (subst_vars; omega) | omega
theorem zq363 {n0 n1 : Nat} (h0 : 2 ≤ n0) (h1 : n0 ≤ 5) (h2 : 2 ≤ n1) (h3 : n1 ≤ 5) : n0 - 1 + (n1 - 1) ≤ 100 := by first | lia | grind | omega
theorem zq364 {n0 n1 : Nat} (h0 : 2 ≤ n1) (h1 : n1 = n0 + 2) : n0 + 2 - 1 + (n0 + 2 - 1 - 1) - 0 - 0 - 1 = 2 * n0 := by first | grind | lia | (simp; omega) | omega
theorem zq365 {n0 n1 : Nat} (h0 : 2 ≤ n1) (h1 : n1 ≤ 4) (h2 : n0 < n1 - 1) : Int.natAbs ((↑n0 : Int) + 1) ≤ 3 := by first | grind | lia | omega
theorem zq366 {n0 n1 : Nat} (h0 : 2 ≤ n1) (h1 : n1 ≤ 4) (h2 : n0 < n1 - 1) : n0 + 1 < n1 := by first | exact Nat.add_lt_of_lt_sub h2 | omega
theorem zq367 {n0 n1 : Nat} (h0 : 2 ≤ n1) (h1 : n1 ≤ 4) (h2 : n0 = n1 - 1) : n0 ≤ 5 := by first | grind | lia | (subst_vars; omega) | omega
theorem zq368 {n0 n1 : Nat} (h0 : 2 ≤ n1) (h1 : n1 ≤ 4) (h2 : n0 = n1 - 1) : n0 ≤ 6 := by first | grind | lia | (subst_vars; omega) | omega
theorem zq369 {n0 n1 : Nat} (h0 : 2 ≤ n1) (h1 : n1 ≤ 5) : 1 ≤ n0 - 1 + (n1 - 1) := by first | lia | grind | omega
theorem zq370 {n0 n1 : Nat} (h0 : 2 ≤ n1) (h1 : n1 ≤ 5) (h2 : 2 ≤ n0) (h3 : n0 ≤ 5) : 3 ≤ n0 + n1 := by first | grind | lia | omega
theorem zq371 {n0 n1 : Nat} (h0 : 3 ≤ n0 + n1) (h1 : ¬n0 < n1) (h2 : 0 < n0) (h3 : 0 < n1) : 2 ≤ n0 := by first | grind | lia | omega
theorem zq372 {n0 n1 : Nat} (h0 : 3 ≤ n1 + n0) : 3 ≤ n0 + n1 := by first | lia | grind | omega
theorem zq373 {n0 n1 : Nat} (h0 : 3 ≤ n1 + n0) (h1 : n1 < n0) : 2 ≤ n0 := by first | grind | lia | omega
theorem zq374 {n0 n1 : Nat} (h0 : n0 * n1 ≤ 1000 * 10) : (↑(n0 * n1) : Int) ≤ 10000 := by first | exact Nat.ToInt.of_le rfl rfl h0 | lia | omega
theorem zq375 {n0 n1 : Nat} (h0 : n0 * n1 ≤ 5000 * 101) : (↑(n0 * n1) : Int) ≤ 505000 := by first | exact Nat.ToInt.of_le rfl rfl h0 | lia | omega
theorem zq376 {n0 n1 : Nat} (h0 : n0 + 1 < n1) : n0 < n1 := by first | exact Nat.lt_of_succ_lt h0 | omega
theorem zq377 {n0 n1 : Nat} (h0 : n0 + 1 < n1 + 1) : n0 < n1 := by first | exact (fun {a b} => Iff.mp Nat.succ_lt_succ_iff) h0 | simp_all | omega
theorem zq378 {n0 n1 : Nat} (h0 : n0 + 1 < n1 + 1) : n0 < n1 + 1 := by first | exact Nat.lt_of_succ_lt h0 | omega
theorem zq379 {n0 n1 : Nat} (h0 : n0 + 1 = 2 * n1) : 0 + 1 + n0 = 2 * n1 := by first | lia | grind | omega
theorem zq380 {n0 n1 : Nat} (h0 : n0 + 1 = n1 * 8) : n0 + 6 * (n0 + 1) + 1 = n1 * 7 * 8 := by first | lia | grind | omega
theorem zq381 {n0 n1 : Nat} (h0 : n0 + 1 = n1 * 8) (h1 : 7 * (n0 + 1) ≤ 1000000) : n0 ≤ n0 + 6 * (n0 + 1) := by first | exact Nat.le_add_right n0 (6 * (n0 + 1)) | simp_all | grind | omega
theorem zq382 {n0 n1 : Nat} (h0 : n0 + 1 ≤ n1) : (↑(n0 + 1) : Int) - 1 = (↑n0 : Int) := by first | exact (fun {b a c} => Iff.mpr Int.sub_eq_iff_eq_add) rfl | simp_all | lia | omega
theorem zq383 {n0 n1 : Nat} (h0 : n0 + 1 ≤ n1) : n0 < n0 + 1 := by first | exact Nat.lt_add_one n0 | simp_all | grind | omega
theorem zq384 {n0 n1 : Nat} (h0 : n0 + 1 ≤ n1) : n0 < n1 := by first | assumption | exact Nat.lt_of_succ_le h0 | omega
theorem zq385 {n0 n1 : Nat} (h0 : n0 + 1 ≤ n1) : n0 ≤ n1 - 1 := by first | exact Nat.le_sub_one_of_lt h0 | omega
theorem zq386 {n0 n1 : Nat} (h0 : n0 + 1 ≤ n1 + 0) : n0 + 1 - n1 = 0 := by first | exact Nat.sub_eq_zero_of_le h0 | simp_all | omega
theorem zq387 {n0 n1 : Nat} (h0 : n0 + 1 ≤ n1 + 0) : n0 < n1 := by first | assumption | exact Nat.lt_of_succ_le h0 | omega
theorem zq388 {n0 n1 : Nat} (h0 : n0 + n1 ≤ 5) (h1 : 0 < n1) : n0 ≤ 4 := by first | grind | lia | omega
theorem zq389 {n0 n1 : Nat} (h0 : n0 - 1 < n1) : n0 ≤ n1 := by first | exact Nat.le_of_pred_lt h0 | omega
theorem zq390 {n0 n1 : Nat} (h0 : n0 - 1 ≤ n1) (h1 : ¬n1 = n0 - 1) : n0 ≤ n1 := by first | grind | lia | omega
theorem zq391 {n0 n1 : Nat} (h0 : n0 < Int.toNat ((↑n1 : Int) - 0)) : n0 < n1 := by first | assumption | exact Mine.zq384 h0 | simp_all | omega
theorem zq392 {n0 n1 : Nat} (h0 : n0 < n1) : n0 + 1 + (n1 - (n0 + 1)) = n1 := by first | exact Nat.add_sub_of_le h0 | omega
theorem zq393 {n0 n1 : Nat} (h0 : n0 < n1) : n0 + 1 ≤ n1 := by first | assumption | exact Nat.succ_le_of_lt h0 | omega
theorem zq394 {n0 n1 : Nat} (h0 : n0 < n1) : n0 ≤ n1 - 1 := by first | exact Nat.le_sub_one_of_lt h0 | omega
theorem zq395 {n0 n1 : Nat} (h0 : n0 < n1) (h1 : 0 < n0) (h2 : ¬3 ≤ n1 + n0) : False := by first | lia | grind | omega
theorem zq396 {n0 n1 : Nat} (h0 : n0 < n1) (h1 : 1 ≤ n0) : 1 ≤ n0 ∧ n0 ≤ n1 := by first | lia | grind | omega
theorem zq397 {n0 n1 : Nat} (h0 : n0 < n1) (h1 : 1 ≤ n0) : 1 ≤ n0 ∧ n0 ≤ n1 + 1 := by first | lia | grind | omega
theorem zq398 {n0 n1 : Nat} (h0 : n0 < n1) (h1 : 2 ≤ n0) : Int.natAbs 1 < n0 := by first | assumption | exact Mine.zq384 h1 | lia | omega
theorem zq399 {n0 n1 : Nat} (h0 : n0 < n1) (h1 : ¬n0 < 1) : 1 ≤ n0 ∧ n0 ≤ n1 := by first | lia | grind | omega
theorem zq400 {n0 n1 : Nat} (h0 : n0 < n1 + 1) (h1 : ¬n0 = n1) : n0 < n1 := by first | lia | grind | omega
theorem zq401 {n0 n1 : Nat} (h0 : n0 < n1 + 1) (h1 : ¬n1 = n0) : n0 < n1 := by first | lia | grind | omega
theorem zq402 {n0 n1 : Nat} (h0 : n0 < n1 - 1) : n0 + 1 < n1 := by first | exact Nat.add_lt_of_lt_sub h0 | omega
theorem zq403 {n0 n1 : Nat} (h0 : n0 = 1) (h1 : 0 < n1) : n0 ≤ n1 := by first | exact le_of_eq_of_le h0 h1 | grind | lia | omega
theorem zq404 {n0 n1 : Nat} (h0 : n0 = n1) : n0 = n1 := by first | assumption | omega
theorem zq405 {n0 n1 : Nat} (h0 : n0 ≤ 0) (h1 : 0 < n1) : n0 + 1 - n1 = 0 := by first | lia | grind | omega
theorem zq406 {n0 n1 : Nat} (h0 : n0 ≤ 0) (h1 : 0 < n1) : n0 < n1 := by first | exact Nat.lt_of_le_of_lt h0 h1 | simp_all | omega
theorem zq407 {n0 n1 : Nat} (h0 : n0 ≤ 100) (h1 : n1 < n0) : Int.toNat ((↑n0 : Int) - (↑n1 : Int)) ≤ 65536 := by first | (simp; omega) | lia | grind | omega
theorem zq408 {n0 n1 : Nat} (h0 : n0 ≤ 100) (h1 : n1 = n0) : n0 ≤ 65536 := by first | lia | grind | (subst_vars; omega) | omega
theorem zq409 {n0 n1 : Nat} (h0 : n0 ≤ 100) (h1 : n1 ≤ 100) (h2 : 0 < n0) (h3 : 0 < n1) : (↑n0 : Int) + (↑n1 : Int) - 1 ≤ 65536 := by first | grind | lia | omega
theorem zq410 {n0 n1 : Nat} (h0 : n0 ≤ 100) (h1 : n1 ≤ 100) (h2 : 0 < n0) (h3 : 0 < n1) : -65536 ≤ (↑n0 : Int) + (↑n1 : Int) - 1 := by first | grind | lia | omega
theorem zq411 {n0 n1 : Nat} (h0 : n0 ≤ 100) (h1 : n1 ≤ 100) (h2 : 0 < n0) (h3 : 0 < n1) : Int.toNat ((↑n0 : Int) + (↑n1 : Int)) - 1 = n0 + n1 - 1 := by first | rfl | exact Mine.zq404 rfl | omega
theorem zq412 {n0 n1 : Nat} (h0 : n0 ≤ 5000) : n0 + n1 * (n0 + 1) ≤ n0 + n1 * (n0 + 1) + n0 := by first | exact Nat.le_add_right (n0 + n1 * (n0 + 1)) n0 | simp_all | grind | omega
theorem zq413 {n0 n1 : Nat} (h0 : n0 ≤ 6) (h1 : 0 < n0) (h2 : 3 ≤ n0 + n1) (h3 : ¬n0 < n1) : 2 ≤ n0 := by first | grind | lia | omega
theorem zq414 {n0 n1 : Nat} (h0 : n0 ≤ 6) (h1 : n1 ≤ 6) : n0 - 1 + (n1 - 1) ≤ 10 := by omega
theorem zq415 {n0 n1 : Nat} (h0 : n0 ≤ 65536) (h1 : n1 ≤ 65536) : Int.toNat (Max.max (↑n0 : Int) (↑n1 : Int)) = Max.max n0 n1 := by first | grind | omega
theorem zq416 {n0 n1 : Nat} (h0 : n0 ≤ 65536) (h1 : n1 ≤ 65536) : Max.max (↑n0 : Int) (↑n1 : Int) ≤ 65536 := by first | lia | grind | omega
theorem zq417 {n0 n1 : Nat} (h0 : n0 ≤ n1) : n0 ≤ n1 + 1 := by first | exact Nat.le_add_right_of_le h0 | lia | omega
theorem zq418 {n0 n1 : Nat} (h0 : n0 ≤ n1) (h1 : 2 ≤ n1) (h2 : n1 ≤ 6) (h3 : 0 < n0) : n0 - 1 ≤ 10 := by first | (simp; omega) | lia | grind | omega
theorem zq419 {n0 n1 : Nat} (h0 : n0 ≤ n1) (h1 : 2 ≤ n1) (h2 : n1 ≤ 6) (h3 : 0 < n0) : n0 - 1 ≤ 5 := by first | (simp; omega) | lia | grind | omega
theorem zq420 {n0 n1 : Nat} (h0 : n0 ≤ n1) (h1 : n1 < n0 + 0) : False := by first | lia | grind | omega
theorem zq421 {n0 n1 : Nat} (h0 : n0 ≤ n1) (h1 : n1 ≤ 100) : n0 ≤ 32768 := by first | lia | grind | omega
theorem zq422 {n0 n1 : Nat} (h0 : n0 ≤ n1) (h1 : n1 ≤ n0) : n0 = n1 := by first | exact Nat.le_antisymm h0 h1 | lia | grind | omega
theorem zq423 {n0 n1 : Nat} (h0 : n0 ≤ n1) (h1 : ¬n1 = n0) : n0 + 1 ≤ n1 := by first | lia | grind | omega
theorem zq424 {n0 n1 : Nat} (h0 : n0 ≤ n1) (h1 : ¬n1 = n0) : n0 < n1 := by first | exact Nat.lt_of_le_of_ne h0 fun a => h1 (id (Eq.symm a)) | lia | omega
theorem zq425 {n0 n1 : Nat} (h0 : n0 ≤ n1 + 1) (h1 : ¬n0 ≤ n1) : n0 = n1 + 1 := by first | grind | lia | omega
theorem zq426 {n0 n1 : Nat} (h0 : n1 + n0 ≤ 5) : n0 ≤ 5 := by first | exact Nat.le_of_add_left_le h0 | omega
theorem zq427 {n0 n1 : Nat} (h0 : n1 - 1 = n0) (h1 : n0 ≤ 6) (h2 : 0 < n0) : (↑n0 : Int) - 1 = (↑(n0 - 1) : Int) := by first | grind | lia | omega
theorem zq428 {n0 n1 : Nat} (h0 : n1 - 1 = n0) (h1 : n0 ≤ 6) (h2 : 0 < n0) : 0 < (↑n0 : Int) := by first | exact (fun {n} => Iff.mpr Int.natCast_pos) h2 | (simp; omega) | simp_all | omega
theorem zq429 {n0 n1 : Nat} (h0 : n1 - 1 = n0) (h1 : n0 ≤ 6) (h2 : 0 < n0) : 0 ≤ (↑n0 : Int) := by first | exact Int.natCast_nonneg n0 | simp_all | grind | omega
theorem zq430 {n0 n1 : Nat} (h0 : n1 - 1 = n0) (h1 : n0 ≤ 6) (h2 : 0 < n0) : 650 * (n0 - 1) + 1 ≤ 9000 := by first | grind | lia | (simp; omega) | omega
theorem zq431 {n0 n1 : Nat} (h0 : n1 - 1 = n0) (h1 : n0 ≤ 6) (h2 : 0 < n0) : n0 - 1 ≤ 6 := by first | (simp; omega) | grind | lia | omega
theorem zq432 {n0 n1 : Nat} (h0 : n1 < 0) : n0 = 0 := by first | simp_all | grind | lia | omega
theorem zq433 {n0 n1 : Nat} (h0 : n1 < 2) (h1 : n0 = n1 - 1) : n0 = 0 := by first | grind | lia | (subst_vars; omega) | omega
theorem zq434 {n0 n1 : Nat} (h0 : n1 < n0) : 1 ≤ n0 - n1 := by first | exact Nat.le_sub_of_add_le' h0 | omega
theorem zq435 {n0 n1 : Nat} (h0 : n1 < n0) : Int.toNat ((↑n0 : Int) - ((↑n1 : Int) + 1)) = n0 - (n1 + 1) := by first | grind | lia | omega
theorem zq436 {n0 n1 : Nat} (h0 : n1 < n0) : Int.toNat ((↑n0 : Int) - (↑n1 : Int)) = n0 - n1 := by first | exact Int.toNat_sub n0 n1 | simp_all | omega
theorem zq437 {n0 n1 : Nat} (h0 : n1 < n0) : Nat.succ (n0 - n1 - 1) = n0 - n1 := by first | grind | lia | omega
theorem zq438 {n0 n1 : Nat} (h0 : n1 < n0) : n0 + n1 - n1 - n1 - 1 + 1 + n1 = n1 + (n0 - n1) := by first | grind | lia | (simp; omega) | omega
theorem zq439 {n0 n1 : Nat} (h0 : n1 < n0) : n0 + n1 - n1 - n1 - 1 - (n0 - n1 - 1) = 0 := by first | simp_all | omega
theorem zq440 {n0 n1 : Nat} (h0 : n1 < n0) : n0 - n1 = n0 - (n1 + 1) + 1 := by first | grind | lia | omega
theorem zq441 {n0 n1 : Nat} (h0 : n1 < n0) : n0 - n1 = n0 - n1 - 1 + 1 := by first | grind | lia | omega
theorem zq442 {n0 n1 : Nat} (h0 : n1 < n0) : n0 - n1 ≤ n0 := by first | exact Nat.sub_le n0 n1 | simp_all | omega
theorem zq443 {n0 n1 : Nat} (h0 : n1 < n0) : n0 ≠ 0 := by first | exact Nat.ne_zero_of_lt h0 | lia | grind | omega
theorem zq444 {n0 n1 : Nat} (h0 : n1 < n0) : ¬n0 ≤ n1 := by first | exact Nat.not_le_of_lt h0 | (simp; omega) | simp_all | omega
theorem zq445 {n0 n1 : Nat} (h0 : n1 < n0) (h1 : 0 < n1) : 3 ≤ n0 + n1 := by first | lia | grind | omega
theorem zq446 {n0 n1 : Nat} (h0 : n1 = n0) : n0 ≤ n1 := by first | exact Nat.le_of_eq (id (Eq.symm h0)) | simp_all | lia | omega
theorem zq447 {n0 n1 : Nat} (h0 : n1 = n0 + 1) (h1 : 2 ≤ n0) : 2 ≤ n0 := by first | assumption | omega
theorem zq448 {n0 n1 : Nat} (h0 : n1 = n0 + 1) (h1 : 2 ≤ n0) : 2 ≤ n0 + 1 := by first | exact Nat.le_add_right_of_le h1 | grind | lia | omega
theorem zq449 {n0 n1 : Nat} (h0 : n1 = n0 + 1) (h1 : 2 ≤ n0) : n0 + 1 - 1 = n0 - 1 + 1 := by first | lia | grind | (simp; omega) | omega
theorem zq450 {n0 n1 : Nat} (h0 : n1 = n0 - 1) : 0 ≤ (↑(n0 - 1) : Int) := by first | exact Int.natCast_nonneg (n0 - 1) | simp_all | grind | omega
theorem zq451 {n0 n1 : Nat} (h0 : n1 ≤ 100) (h1 : 0 < n1) (h2 : n1 - 1 = n0) : (↑n0 : Int) ≤ 65536 := by first | grind | lia | (subst_vars; omega) | omega
theorem zq452 {n0 n1 : Nat} (h0 : n1 ≤ 100) (h1 : n0 < Int.toNat ((↑n1 : Int) - 0)) : n0 < n1 := by first | assumption | exact Nat.lt_of_succ_le h1 | simp_all | omega
theorem zq453 {n0 n1 : Nat} (h0 : n1 ≤ 100) (h1 : n0 < n1) : (↑n0 : Int) + 1 ≤ 65536 := by first | lia | grind | omega
theorem zq454 {n0 n1 : Nat} (h0 : n1 ≤ 100) (h1 : n0 < n1) : (↑n0 : Int) ≤ 65536 := by first | lia | grind | omega
theorem zq455 {n0 n1 : Nat} (h0 : n1 ≤ 32768) (h1 : n0 ≤ 32768) (h2 : 0 < n1) : n0 + n1 ≤ 65536 := by first | grind | lia | omega
theorem zq456 {n0 n1 : Nat} (h0 : n1 ≤ 6) (h1 : 2 ≤ n1) (h2 : n1 - 1 = n0) : n0 ≤ 6 := by first | grind | lia | (subst_vars; omega) | omega
theorem zq457 {n0 n1 : Nat} (h0 : n1 ≤ 6) (h1 : 2 ≤ n1) (h2 : n1 - 1 = n0) (h3 : n0 ≤ 6) : 0 < n0 := by first | grind | lia | (subst_vars; omega) | omega
theorem zq458 {n0 n1 : Nat} (h0 : n1 ≤ 6) (h1 : n0 ≤ n1) (h2 : 2 ≤ n1) : n0 ≤ 6 := by first | exact Nat.le_trans h1 h0 | lia | omega
theorem zq459 {n0 n1 : Nat} (h0 : n1 ≤ 65536) (h1 : n0 + 1 ≤ n1) : Min.min (n0 + 1) n1 ≤ 65536 := by first | lia | grind | omega
theorem zq460 {n0 n1 : Nat} (h0 : n1 ≤ 9000) (h1 : n0 < n1) : n0 < 9000 := by first | exact Nat.lt_of_lt_of_le h1 h0 | omega
theorem zq461 {n0 n1 : Nat} (h0 : n1 ≤ n0) : (↑n0 : Int) - 1 - ((↑n1 : Int) - 1) + 1 - (↑(n0 + 1 - n1) : Int) = 0 := by first | grind | lia | omega
theorem zq462 {n0 n1 : Nat} (h0 : n1 ≤ n0) : (↑n0 : Int) - 1 - ((↑n1 : Int) - 1) = (↑(n0 - n1) : Int) := by first | grind | lia | omega
theorem zq463 {n0 n1 : Nat} (h0 : n1 ≤ n0) : n0 + 1 ≤ n1 + (n0 + 1 - n1) := by first | grind | lia | omega
theorem zq464 {n0 n1 : Nat} (h0 : n1 ≤ n0) : ¬n0 < n1 := by first | exact (fun {a b} => Iff.mpr Nat.not_lt) h0 | (simp; omega) | simp_all | omega
theorem zq465 {n0 n1 : Nat} (h0 : n1 ≤ n0) (h1 : 0 < n1) : n0 - 1 - (n0 - n1) = n1 - 1 := by first | lia | grind | omega
theorem zq466 {n0 n1 : Nat} (h0 : n1 ≤ n0) (h1 : 0 < n1) : n0 = n0 - 1 + 1 := by first | lia | grind | omega
theorem zq467 {n0 n1 : Nat} (h0 : n1 ≤ n0) (h1 : 2 ≤ n0) (h2 : n0 ≤ 6) (h3 : 0 < n1) : n0 - 1 + (n1 - 1) ≤ 10 := by first | grind | lia | omega
theorem zq468 {n0 n1 : Nat} (h0 : ¬1 ≤ n0) : ¬(1 ≤ n0 ∧ n0 ≤ n1 + 1) := by first | exact (fun {a b} => Iff.mpr not_and) fun a a_1 => h0 a | simp_all | grind | omega
theorem zq469 {n0 n1 : Nat} (h0 : ¬1 ≤ n0) : ¬(1 ≤ n0 ∧ n0 ≤ n1) := by first | exact (fun {a b} => Iff.mpr not_and) fun a a_1 => h0 a | simp_all | grind | omega
theorem zq470 {n0 n1 : Nat} (h0 : ¬n0 < 1) (h1 : n0 < n1 + 1) : n0 - 1 < n1 := by first | grind | lia | omega
theorem zq471 {n0 n1 : Nat} (h0 : ¬n0 < 1) (h1 : ¬n0 < n1 + 1) : ¬n0 - 1 < n1 := by first | grind | omega
theorem zq472 {n0 n1 : Nat} (h0 : ¬n0 < n1) : (↑n0 : Int) - (↑n1 : Int) = (↑(n0 - n1) : Int) := by first | grind | omega
theorem zq473 {n0 n1 : Nat} (h0 : ¬n0 < n1) (h1 : ¬n0 < 1) (h2 : n0 ≤ n1) : 1 ≤ n0 ∧ n0 ≤ n1 := by first | grind | lia | omega
theorem zq474 {n0 n1 : Nat} (h0 : ¬n0 < n1) (h1 : ¬n0 = n1) : ¬(1 ≤ n0 ∧ n0 ≤ n1) := by first | lia | grind | omega
theorem zq475 {n0 n1 : Nat} (h0 : ¬n0 < n1) (h1 : ¬n0 = n1) : ¬n0 < n1 + 1 := by first | lia | grind | omega
theorem zq476 {n0 n1 : Nat} (h0 : ¬n0 < n1) (h1 : ¬n0 = n1) (h2 : ¬n0 = n1 + 1) : 2 ≤ n0 - n1 := by first | grind | lia | omega
theorem zq477 {n0 n1 : Nat} (h0 : ¬n0 < n1) (h1 : ¬n0 = n1) (h2 : ¬n0 = n1 + 1) : ¬(1 ≤ n0 ∧ n0 ≤ n1 + 1) := by first | lia | grind | omega
theorem zq478 {n0 n1 : Nat} (h0 : ¬n0 < n1 + 1) : n0 - 1 - n1 = n0 - (n1 + 1) := by first | grind | lia | omega
theorem zq479 {n0 n1 : Nat} (h0 : ¬n0 < n1 + 1) : ¬n0 < 1 := by first | lia | grind | (simp; omega) | omega
theorem zq480 {n0 n1 : Nat} (h0 : ¬n0 ≤ n1) : ¬(1 ≤ n0 ∧ n0 ≤ n1) := by first | exact (fun {a b} => Iff.mpr not_and) fun a => h0 | simp_all | lia | omega
theorem zq481 {n0 n1 : Nat} (h0 : ¬n0 ≤ n1) : ¬n0 ≤ n1 := by first | assumption | omega
theorem zq482 {n0 n1 : Nat} (h0 : ¬n1 < 1) (h1 : ¬n1 ≤ n0) : n0 ≤ n1 - 1 := by first | grind | lia | omega
theorem zq483 {n0 n1 : Nat} (h0 : ¬n1 < n0 + 1) : n0 ≤ n1 := by first | lia | grind | omega
theorem zq484 {n0 n1 : Nat} (h0 : ¬n1 < n0 + 1) : n0 ≤ n1 - 1 := by first | grind | lia | omega
theorem zq485 {n0 n1 : Nat} (h0 : ¬n1 < n0 - 1) : n0 ≤ n1 + 1 := by first | simp_all | omega
theorem zq486 {n0 n1 : Nat} {i2 : Int} (h0 : 0 ≤ i2 ∧ i2 < (↑n1 : Int)) (h1 : i2 = (↑n0 : Int)) : n0 < n1 := by first | simp_all | (subst_vars; omega) | omega
theorem zq487 {n0 n1 : Nat} {i2 i3 : Int} (h0 : 2 ≤ n0) (h1 : n0 ≤ 4) (h2 : n1 = n0 - 1) (h3 : i2 = 0 ↔ i3 = 0) : 3 ≤ n0 + n1 := by first | grind | lia | (subst_vars; omega) | omega
theorem zq488 {n0 n1 n3 : Nat} {i2 : Int} (h0 : n3 < n0) (h1 : n0 < n3 + 1 + 0) : n0 < n1 → i2 = 0 := by first | lia | grind | omega
theorem zq489 {n0 n1 n2 : Nat} : n0 + (n1 * n2 + n2 + 1) ≤ n0 + (n1 * n2 + n1 * 1 + (n2 + 1)) + 1 := by first | grind | lia | omega
theorem zq490 {n0 n1 n2 : Nat} : n0 + (n1 + 1 + n2) = n2 + (n0 + n1) + 1 := by first | grind | lia | omega
theorem zq491 {n0 n1 n2 : Nat} : n0 + n0 < n0 + n1 + (n0 + n1 + n2 + 1) := by first | grind | lia | omega
theorem zq492 {n0 n1 n2 : Nat} : n0 + n1 + 1 + n2 * (n1 + 1) + 1 ≤ n0 + (n2 * (n1 + 1) + (n1 + 1)) + 1 := by first | grind | lia | (simp; omega) | omega
theorem zq493 {n0 n1 n2 : Nat} : n0 - n1 - n2 = n0 - (n1 + n2) := by first | exact Nat.sub_sub n0 n1 n2 | grind | lia | omega
theorem zq494 {n0 n1 n2 : Nat} : ¬(n0 ≤ n0 + n1 + n2 ∧ n0 + n1 + n2 < n0 + n1) := by first | simp_all | grind | lia | omega
theorem zq495 {n0 n1 n2 : Nat} (h0 : (n0 + 1) * (n1 - 1) ≤ 61 * 5) (h1 : (n0 + 1) * (n2 - 1) ≤ 61 * 5) : (n0 + 1) * (n1 - 1) + 1 + ((n0 + 1) * (n2 - 1) + 1) ≤ 1000000 := by omega
theorem zq496 {n0 n1 n2 : Nat} (h0 : 0 < n0) (h1 : 3 ≤ n1 + n0) (h2 : n2 = n1 + 1) (h3 : n1 = 1) : 2 ≤ n0 := by first | grind | lia | (subst_vars; omega) | omega
theorem zq497 {n0 n1 n2 : Nat} (h0 : 0 < n0) (h1 : n1 = n2 + 1) (h2 : ¬n0 ≤ n2) : n0 + 1 - n1 + n2 ≤ n0 + 1 - 2 + 1 := by first | (subst_vars; omega) | grind | lia | omega
theorem zq498 {n0 n1 n2 : Nat} (h0 : 0 < n1) (h1 : 0 < n2) (h2 : n0 < n2 - 1) : n0 + (n1 + (n2 - 1 - 1 - n0)) = n1 - 1 + (n2 - 1) := by first | grind | lia | omega
theorem zq499 {n0 n1 n2 : Nat} (h0 : 0 < n2) (h1 : 0 < n1) (h2 : n0 < n2 - 1) : n0 + (n1 + (n2 - 1 - 1 - n0)) = n2 - 1 + (n1 - 1) := by first | grind | lia | omega
theorem zq500 {n0 n1 n2 : Nat} (h0 : 0 < n2) (h1 : n0 = n2 + 1) (h2 : 0 < n1) : 3 ≤ n0 + n1 := by first | grind | lia | (subst_vars; omega) | omega
theorem zq501 {n0 n1 n2 : Nat} (h0 : 1 ≤ n1) (h1 : n1 ≤ 4) (h2 : n0 < n1) (h3 : n2 = n0 + 1) : n0 + 1 ≤ 65536 := by first | lia | grind | (subst_vars; omega) | omega
theorem zq502 {n0 n1 n2 : Nat} (h0 : 1 ≤ n2) (h1 : n2 = n0 + n1) : n0 + n1 - 0 - 0 - 1 + 1 = n2 := by first | simp_all | exact Eq.symm ((fun {b a c} h => Iff.mp (Nat.sub_eq_iff_eq_add h)) h0 (congrFun (congrArg HSub.hSub h1) 1)) | omega
theorem zq503 {n0 n1 n2 : Nat} (h0 : 1 ≤ n2) (h1 : n2 = n0 + n1) : n0 + n1 - 0 - 0 - 1 = n2 - 1 := by first | simp_all | exact (fun {a b} => Iff.mp Nat.succ_inj) (congrArg Nat.succ (congrFun (congrArg HSub.hSub (id (Eq.symm h1))) 1)) | lia | omega
theorem zq504 {n0 n1 n2 : Nat} (h0 : 2 ≤ n0) (h1 : n0 = n1 + 2) (h2 : n2 < n1 + 2 - 1 - 0) (h3 : ¬2 * n1 - n2 = n1) : n0 ≤ 2 * n1 - n2 + 1 := by first | lia | grind | (subst_vars; omega) | omega
theorem zq505 {n0 n1 n2 : Nat} (h0 : 2 ≤ n0) (h1 : n0 = n1 + 2) (h2 : n2 < n1 + 2 - 1 - 1 - 0) (h3 : ¬2 * n1 - n2 = n1 + 1) : n0 ≤ 2 * n1 - n2 := by first | lia | grind | (subst_vars; omega) | omega
theorem zq506 {n0 n1 n2 : Nat} (h0 : 2 ≤ n2) (h1 : n2 = n0 + 2) (h2 : n1 < n0 + 2 - 1 - 1 - 0) : ¬2 * n0 < n1 := by first | grind | lia | (subst_vars; omega) | omega
theorem zq507 {n0 n1 n2 : Nat} (h0 : n0 * n1 % n2 = 1) (h1 : n2 * (n0 * n1 / n2) + n0 * n1 % n2 = n0 * n1) : n0 * n1 = n2 * (n0 * n1 / n2) + 1 := by first | simp_all | omega
theorem zq508 {n0 n1 n2 : Nat} (h0 : n0 + (n1 + 1) < n2) : n0 + 1 + n1 < n2 := by first | lia | grind | omega
theorem zq509 {n0 n1 n2 : Nat} (h0 : n0 + (n1 + 1) = n2) : n0 + 1 + n1 = n2 := by first | lia | grind | (subst_vars; omega) | omega
theorem zq510 {n0 n1 n2 : Nat} (h0 : n0 + (n1 + 1) ≤ n2) : n0 + 1 + n1 ≤ n2 := by first | lia | grind | omega
theorem zq511 {n0 n1 n2 : Nat} (h0 : n0 + (n1 + 1) ≤ n2 + 1) : n0 + n1 ≤ n2 + 1 := by first | exact Mine.zq28 h0 | omega
theorem zq512 {n0 n1 n2 : Nat} (h0 : n0 + (n2 + 1) < n1) : n0 < n1 := by first | exact Nat.lt_of_add_right_lt h0 | omega
theorem zq513 {n0 n1 n2 : Nat} (h0 : n0 + (n2 + 1) ≤ n1 + 1) : n0 ≤ n1 - (0 + n2) := by first | grind | lia | (simp; omega) | omega
theorem zq514 {n0 n1 n2 : Nat} (h0 : n0 + 1 + n1 ≤ n2 + 1) : n0 + n1 ≤ n2 := by first | lia | grind | omega
theorem zq515 {n0 n1 n2 : Nat} (h0 : n0 + 1 + n1 ≤ n2 + 1) : n0 + n1 ≤ n2 + 1 := by first | lia | grind | omega
theorem zq516 {n0 n1 n2 : Nat} (h0 : n0 + 1 + n2 = n1) : n0 < n1 := by first | lia | grind | (subst_vars; omega) | omega
theorem zq517 {n0 n1 n2 : Nat} (h0 : n0 + 1 + n2 = n1) (h1 : n0 < n1) : ¬n0 = n1 := by first | exact Nat.ne_of_lt h1 | omega
theorem zq518 {n0 n1 n2 : Nat} (h0 : n0 + 1 < n1 + 1) (h1 : n2 = n1 + 1) (h2 : n2 ≤ n0 + 1) : False := by first | lia | grind | (subst_vars; omega) | omega
theorem zq519 {n0 n1 n2 : Nat} (h0 : n0 + 1 < n1 + n2) : n0 + 1 < n1 + 1 + n2 := by first | lia | grind | omega
theorem zq520 {n0 n1 n2 : Nat} (h0 : n0 + 1 = n2 * 8) (h1 : n1 * (n0 + 1) ≤ 5 * (n0 + 1)) : n0 + n1 * (n0 + 1) ≤ n0 + 6 * (n0 + 1) := by first | lia | grind | (simp; omega) | omega
theorem zq521 {n0 n1 n2 : Nat} (h0 : n0 + 1 ≤ n1 ∧ n1 < n0 + 1 + (n2 - (n0 + 1))) : n0 < n1 := by first | lia | grind | omega
theorem zq522 {n0 n1 n2 : Nat} (h0 : n0 + 8 * (n1 + 1) + 80 < n2) : n0 + 3 + 8 * n1 + 80 < n2 := by first | lia | grind | omega
theorem zq523 {n0 n1 n2 : Nat} (h0 : n0 + 8 * n2 + 80 < n1) : n0 + 64 < n1 := by first | lia | grind | omega
theorem zq524 {n0 n1 n2 : Nat} (h0 : n0 + n1 < n2) : (↑(n0 + n1) : Int) < (↑n2 : Int) := by first | exact Mine.zq27 h0 | omega
theorem zq525 {n0 n1 n2 : Nat} (h0 : n0 + n1 ≤ n2) : n0 + n1 + (n2 - (n0 + n1)) = n2 := by first | exact Nat.add_sub_of_le h0 | simp_all | omega
theorem zq526 {n0 n1 n2 : Nat} (h0 : n0 + n2 ≤ 5) (h1 : ¬n2 ≤ n1) : n0 + 1 + n1 ≤ 5 := by first | grind | lia | omega
theorem zq527 {n0 n1 n2 : Nat} (h0 : n0 < Int.toNat ((↑n1 : Int) + (↑n2 : Int) - 0)) : n0 < n1 + n2 := by first | assumption | exact Mine.zq387 h0 | omega
theorem zq528 {n0 n1 n2 : Nat} (h0 : n0 < Min.min n2 n1) : n0 < n1 := by first | grind | lia | omega
theorem zq529 {n0 n1 n2 : Nat} (h0 : n0 < n1) (h1 : 0 < n0) (h2 : n2 = n0 + 1) : 3 ≤ n0 + n1 := by first | lia | grind | (subst_vars; omega) | omega
theorem zq530 {n0 n1 n2 : Nat} (h0 : n0 < n1) (h1 : n2 = n1) : (↑n0 : Int) < (↑n1 : Int) := by first | exact (fun {n m} => Iff.mpr Int.ofNat_lt) h0 | (simp; omega) | simp_all | omega
theorem zq531 {n0 n1 n2 : Nat} (h0 : n0 < n1) (h1 : n2 = n1) (h2 : n2 ≤ n0) : False := by first | lia | grind | (subst_vars; omega) | omega
theorem zq532 {n0 n1 n2 : Nat} (h0 : n0 < n1 + (n2 + 1)) : n0 < n1 + 1 + n2 := by first | lia | grind | omega
theorem zq533 {n0 n1 n2 : Nat} (h0 : n0 < n1 + n2) : n0 < n1 + n2 := by first | assumption | omega
theorem zq534 {n0 n1 n2 : Nat} (h0 : n0 < n2) (h1 : n1 < Int.toNat ((↑n2 : Int) - ((↑n0 : Int) + 1))) : n0 + 1 + n1 < n2 := by first | grind | lia | omega
theorem zq535 {n0 n1 n2 : Nat} (h0 : n0 < n2) (h1 : n1 < Int.toNat ((↑n2 : Int) - (↑n0 : Int))) : n0 + n1 < n2 := by first | grind | lia | omega
theorem zq536 {n0 n1 n2 : Nat} (h0 : n0 < n2) (h1 : n2 < n1) : n0 < n1 := by first | exact Nat.lt_trans h0 h1 | omega
theorem zq537 {n0 n1 n2 : Nat} (h0 : n0 ≤ n1) (h1 : n2 = n0) : n0 ≤ n1 := by first | assumption | omega
theorem zq538 {n0 n1 n2 : Nat} (h0 : n0 ≤ n2) (h1 : n1 ≤ n0) : n0 - n1 ≤ n2 - n1 := by first | exact Nat.sub_le_sub_right h0 n1 | omega
theorem zq539 {n0 n1 n2 : Nat} (h0 : n0 ≤ n2) (h1 : n2 - 1 ≤ n1) (h2 : ¬n1 = n2 - 1) : n0 ≤ n1 - (n2 - n0) := by first | lia | grind | omega
theorem zq540 {n0 n1 n2 : Nat} (h0 : n1 + 1 ≤ n0) : ¬(n0 ≤ n1 ∧ n1 < n0 + n2) := by first | lia | grind | omega
theorem zq541 {n0 n1 n2 : Nat} (h0 : n1 + 1 ≤ n2) : n0 ≤ n0 + n1 ∧ n0 + n1 < n0 + n2 := by first | lia | grind | (simp; omega) | omega
theorem zq542 {n0 n1 n2 : Nat} (h0 : n1 + 1 ≤ n2 + n0) (h1 : n2 ≤ n1) : n0 = n0 - 1 + 1 := by first | lia | grind | omega
theorem zq543 {n0 n1 n2 : Nat} (h0 : n1 - n2 = n0) (h1 : n0 ≤ 6) : 0 ≤ (↑n0 : Int) := by first | exact Int.natCast_nonneg n0 | simp_all | grind | omega
theorem zq544 {n0 n1 n2 : Nat} (h0 : n1 - n2 = n0) (h1 : n0 ≤ 6) : 650 * n0 + 1 ≤ 1000000 := by first | grind | lia | (subst_vars; omega) | omega
theorem zq545 {n0 n1 n2 : Nat} (h0 : n1 - n2 = n0) (h1 : n0 ≤ 6) : 650 + (650 * n0 + 1) ≤ 9000 := by first | grind | lia | (subst_vars; omega) | omega
theorem zq546 {n0 n1 n2 : Nat} (h0 : n1 - n2 = n0) (h1 : n0 ≤ 6) (h2 : 0 < n0) : (↑n0 : Int) - 1 = (↑(n0 - 1) : Int) := by first | grind | lia | omega
theorem zq547 {n0 n1 n2 : Nat} (h0 : n1 - n2 = n0) (h1 : n0 ≤ 6) (h2 : 0 < n0) : 0 < (↑n0 : Int) := by first | exact (fun {n} => Iff.mpr Int.natCast_pos) h2 | (simp; omega) | simp_all | omega
theorem zq548 {n0 n1 n2 : Nat} (h0 : n1 - n2 = n0) (h1 : n0 ≤ 6) (h2 : 0 < n0) : 0 ≤ (↑n0 : Int) := by first | exact Int.natCast_nonneg n0 | simp_all | grind | omega
theorem zq549 {n0 n1 n2 : Nat} (h0 : n1 - n2 = n0) (h1 : n0 ≤ 6) (h2 : 0 < n0) : 650 * (n0 - 1) + 1 ≤ 9000 := by first | grind | lia | (simp; omega) | omega
theorem zq550 {n0 n1 n2 : Nat} (h0 : n1 - n2 = n0) (h1 : n0 ≤ 6) (h2 : 0 < n0) : n0 - 1 ≤ 6 := by first | (simp; omega) | grind | lia | omega
theorem zq551 {n0 n1 n2 : Nat} (h0 : n1 - n2 = n0) (h1 : n0 ≤ 6) (h2 : ¬0 < n0) : ¬0 < (↑n0 : Int) := by first | simp_all | grind | lia | omega
theorem zq552 {n0 n1 n2 : Nat} (h0 : n1 < n0 ∨ n0 + n2 ≤ n1) : ¬(n0 ≤ n1 ∧ n1 < n0 + n2) := by first | lia | grind | omega
theorem zq553 {n0 n1 n2 : Nat} (h0 : n1 < n2) : n0 + n1 + 1 < n0 + 1 + n2 := by first | lia | grind | omega
theorem zq554 {n0 n1 n2 : Nat} (h0 : n1 < n2) (h1 : n0 < n2) : n0 < n1 + (n2 - n1) := by first | grind | lia | omega
theorem zq555 {n0 n1 n2 : Nat} (h0 : n1 < n2) (h1 : n0 < n2) : n0 < n1 + 1 + (n2 - (n1 + 1)) := by first | grind | omega
theorem zq556 {n0 n1 n2 : Nat} (h0 : n1 < n2) (h1 : n2 < n0) : n0 - (n1 + 1) = n2 - (n1 + 1) + (n0 - n2) := by first | grind | lia | omega
theorem zq557 {n0 n1 n2 : Nat} (h0 : n1 = n2) (h1 : n0 < n2) : n0 < n1 := by first | exact Nat.lt_of_lt_of_eq h1 (id (Eq.symm h0)) | (subst_vars; omega) | simp_all | omega
theorem zq558 {n0 n1 n2 : Nat} (h0 : n1 = n2 + 1) (h1 : n0 = n2 + 1) : 1 ≤ n0 := by first | simp_all | lia | grind | omega
theorem zq559 {n0 n1 n2 : Nat} (h0 : n1 ≤ 100) (h1 : 0 < n1) (h2 : n1 - 1 = n2) (h3 : n0 < n2) : 0 + (↑n0 : Int) ≤ 65536 := by first | grind | lia | (subst_vars; omega) | omega
theorem zq560 {n0 n1 n2 : Nat} (h0 : n1 ≤ 100) (h1 : 0 < n1) (h2 : n1 - 1 = n2) (h3 : n0 < n2) : n0 ≤ 65536 := by first | grind | lia | (subst_vars; omega) | omega
theorem zq561 {n0 n1 n2 : Nat} (h0 : n1 ≤ 100) (h1 : n2 ≤ 100) (h2 : 0 < n1) (h3 : 0 < n2) (h4 : n1 - 1 = n0) : (↑n0 : Int) ≤ 65536 := by first | grind | lia | (subst_vars; omega) | omega
theorem zq562 {n0 n1 n2 : Nat} (h0 : n1 ≤ 5) (h1 : 0 < n1) (h2 : n0 + n2 ≤ n1) : n0 ≤ 5 := by first | grind | lia | omega
theorem zq563 {n0 n1 n2 : Nat} (h0 : n1 ≤ n0) (h1 : n0 + 1 - n1 = n2) : Max.max 0 ((↑n0 : Int) - (↑n1 : Int) + 1) = (↑n2 : Int) := by first | grind | lia | omega
theorem zq564 {n0 n1 n2 : Nat} (h0 : n1 ≤ n0) (h1 : n0 + 1 - n1 = n2) : n0 + 1 ≤ n1 + n2 := by first | (subst_vars; omega) | lia | grind | omega
theorem zq565 {n0 n1 n2 : Nat} (h0 : n1 ≤ n0) (h1 : n0 + n2 > n1 + n1) : n0 - n1 + n2 > n1 := by first | grind | omega
theorem zq566 {n0 n1 n2 : Nat} (h0 : n1 ≤ n0) (h1 : n2 = n1) : n0 - n1 + n1 = n0 := by first | exact Nat.sub_add_cancel h0 | simp_all | omega
theorem zq567 {n0 n1 n2 : Nat} (h0 : n1 ≤ n2) (h1 : n2 ≤ 100) (h2 : 0 < n1) (h3 : n0 < n1) : n0 ≤ 65536 := by first | lia | grind | omega
theorem zq568 {n0 n1 n2 : Nat} (h0 : n1 ≤ n2) (h1 : n2 ≤ 100) (h2 : 0 < n1) (h3 : n0 ≤ 100) : n0 ≤ 65535 + n1 := by first | lia | grind | omega
theorem zq569 {n0 n1 n2 : Nat} (h0 : n2 + (n1 + 1) ≤ n0 + 1) : ¬n0 < 0 + n1 := by first | lia | grind | (simp; omega) | omega
theorem zq570 {n0 n1 n2 : Nat} (h0 : n2 + 1 ≤ n1) (h1 : n0 + 1 ≤ n1 - 1) : n0 + 1 + 1 ≤ n1 := by first | grind | lia | omega
theorem zq571 {n0 n1 n2 : Nat} (h0 : n2 - 1 = n1) (h1 : n0 < Int.toNat ((↑n1 : Int) - 0)) : n0 < n1 := by first | assumption | exact Mine.zq557 rfl h1 | simp_all | omega
theorem zq572 {n0 n1 n2 : Nat} (h0 : n2 < Int.toNat ((↑n0 : Int) + (↑n1 : Int) - 0)) : Int.toNat ((↑n0 : Int) + (↑n1 : Int) - 0) = n0 + n1 := by first | rfl | exact Mine.zq404 rfl | omega
theorem zq573 {n0 n1 n2 : Nat} (h0 : n2 < n0) (h1 : 0 < n2) (h2 : n1 = n2 + 1) : 3 ≤ n0 + n1 := by first | lia | grind | (subst_vars; omega) | omega
theorem zq574 {n0 n1 n2 : Nat} (h0 : n2 < n0 + n1) : -65536 ≤ (↑n0 : Int) + (↑n1 : Int) := by first | exact Int.neg_ofNat_le_ofNat 65536 (n0 + n1) | omega
theorem zq575 {n0 n1 n2 : Nat} (h0 : n2 < n1) (h1 : n0 < n2 + (n1 - n2)) : n0 < n1 := by first | grind | lia | omega
theorem zq576 {n0 n1 n2 : Nat} (h0 : n2 < n1) (h1 : n2 + 1 ≤ n0 ∧ n0 < n2 + 1 + (n1 - (n2 + 1))) : n0 < n1 := by first | grind | omega
theorem zq577 {n0 n1 n2 : Nat} (h0 : n2 < n1) (h1 : n2 ≤ n0 ∧ n0 < n2 + (n1 - n2)) : n0 < n1 := by first | grind | lia | omega
theorem zq578 {n0 n1 n2 : Nat} (h0 : n2 = n0 + 1) (h1 : n1 ≤ n0) : n0 + 1 + 1 - n1 = n0 + 1 - n1 + 1 := by first | grind | lia | (subst_vars; omega) | omega
theorem zq579 {n0 n1 n2 : Nat} (h0 : n2 = n1 + 1) (h1 : ¬n0 ≤ n1) : n0 + 1 - (n1 + 1) + 1 = n0 + 1 - n1 := by first | grind | lia | (subst_vars; omega) | omega
theorem zq580 {n0 n1 n2 : Nat} (h0 : n2 ≤ 100) (h1 : 0 < n2) (h2 : n2 - 1 = n0) : (↑n0 : Int) - 1 - (0 + (↑n1 : Int)) ≤ 65536 := by first | lia | grind | (subst_vars; omega) | omega
theorem zq581 {n0 n1 n2 : Nat} (h0 : n2 ≤ n0) (h1 : n1 ≤ n2) : n0 - n1 - (n2 - n1) = n0 - n2 := by first | exact Nat.sub_sub_sub_cancel_right h1 | omega
theorem zq582 {n0 n1 n2 : Nat} (h0 : n2 ≤ n1) (h1 : 0 < n2) (h2 : n0 ≤ n1 - 1) : n0 < n1 := by first | grind | lia | omega
theorem zq583 {n0 n1 n2 : Nat} (h0 : n2 ≤ n1) (h1 : 0 < n2) (h2 : n1 - 1 ≤ n0) : ¬n0 < n1 - n2 := by first | grind | (simp; omega) | lia | omega
theorem zq584 {n0 n1 n2 : Nat} (h0 : n2 ≤ n1) (h1 : n0 < n2) : n0 ≤ n1 := by first | lia | grind | omega
theorem zq585 {n0 n1 n2 : Nat} (h0 : n2 ≤ n1) (h1 : n0 ≤ n2) : n0 ≤ n1 := by first | exact Nat.le_trans h1 h0 | omega
theorem zq586 {n0 n1 n2 : Nat} (h0 : n2 ≤ n1 + 1) (h1 : ¬n2 ≤ n0) : n0 ≤ n1 := by first | lia | grind | omega
theorem zq587 {n0 n1 n2 : Nat} (h0 : n2 ≤ n1 + 1 + 1) (h1 : n0 < n2) : n0 ≤ n1 + 1 := by first | lia | grind | omega
theorem zq588 {n0 n1 n2 : Nat} (h0 : ¬n0 < n1) (h1 : n0 < n1 + n2) : n0 - n1 < n2 := by first | lia | grind | omega
theorem zq589 {n0 n1 n2 : Nat} (h0 : ¬n1 < Max.max n0 n2) : n0 ≤ n1 := by first | grind | lia | omega
theorem zq590 {n0 n1 n2 : Nat} (h0 : ¬n1 < Max.max n2 n0) : n0 ≤ n1 := by first | grind | lia | omega
theorem zq591 {n0 n1 n2 : Nat} (h0 : ¬n1 < n0 + n2) : ¬(n0 ≤ n1 ∧ n1 < n0 + n2) := by first | exact (fun {a b} => Iff.mpr not_and) fun a => h0 | simp_all | omega
theorem zq592 {n0 n1 n2 : Nat} (h0 : ¬n2 < n0 + n1) : n0 + n1 ≤ n2 := by first | exact Nat.le_of_not_lt h0 | simp_all | omega
theorem zq593 {n0 n1 n2 : Nat} (h0 : ¬n2 < n1 + n0 - 1) : n0 + n1 ≤ n2 + 1 := by first | grind | omega
theorem zq594 {n0 n1 n2 n3 : Nat} : n0 + n1 + n2 + 1 + n3 - n0 = n3 + (n1 + n2) + 1 := by first | grind | lia | omega
theorem zq595 {n0 n1 n2 n3 : Nat} : n0 + n1 ≤ n0 + n1 + n2 + 1 + n3 := by first | grind | lia | omega
theorem zq596 {n0 n1 n2 n3 : Nat} (h0 : 0 < n2) (h1 : n0 < n3 - 1) (h2 : ¬n1 < n2 - 1 + (n3 - 1)) : ¬(n0 ≤ n1 ∧ n1 < n0 + n2) := by first | lia | grind | omega
theorem zq597 {n0 n1 n2 n3 : Nat} (h0 : 0 < n2) (h1 : n0 < n3 - 1) (h2 : ¬n1 < n3 - 1 + (n2 - 1)) : ¬(n0 ≤ n1 ∧ n1 < n0 + n2) := by first | lia | grind | omega
theorem zq598 {n0 n1 n2 n3 : Nat} (h0 : 1 ≤ n0 * n1) (h1 : n0 * n1 - 1 = n2 * n3) : n0 * n1 = n2 * n3 + 1 := by first | exact (fun {b a c} h => Iff.mp (Nat.sub_eq_iff_eq_add h)) h0 h1 | omega
theorem zq599 {n0 n1 n2 n3 : Nat} (h0 : 1 ≤ n1) (h1 : n1 ≤ 4) (h2 : n2 < n1) (h3 : n3 = n2 + 1) (h4 : n0 = n2 + 1) : n0 ≤ 65535 := by first | lia | grind | (subst_vars; omega) | omega
theorem zq600 {n0 n1 n2 n3 : Nat} (h0 : 2 ≤ n2) (h1 : n2 = n0 + 2) (h2 : n3 = 2 * n0) (h3 : n1 < n0 + 2 - 1 - 0) : ¬2 * n0 < n1 := by first | grind | lia | (subst_vars; omega) | omega
theorem zq601 {n0 n1 n2 n3 : Nat} (h0 : n0 + n1 ≤ n3) (h1 : 1 ≤ n3) : n0 + n1 - n2 - n2 - 1 + 1 ≤ n3 := by omega
theorem zq602 {n0 n1 n2 n3 : Nat} (h0 : n0 < (n1 + 1) * (n1 + 1)) (h1 : n0 = n2 * n3) (h2 : (n1 + 1) * (n1 + 1) ≤ n2 * n3) : False := by first | (subst_vars; omega) | omega
theorem zq603 {n0 n1 n2 n3 : Nat} (h0 : n0 = n3) (h1 : ¬n0 ≤ n1) : ¬(n0 ≤ n1 ∧ n1 < n0 + n2) := by first | exact (fun {a b} => Iff.mpr not_and) fun a a_1 => h1 a | lia | grind | omega
theorem zq604 {n0 n1 n2 n3 : Nat} (h0 : n0 = n3) (h1 : ¬n1 < n0 + n2) : ¬(n0 ≤ n1 ∧ n1 < n0 + n2) := by first | exact (fun {a b} => Iff.mpr not_and) fun a => h1 | simp_all | omega
theorem zq605 {n0 n1 n2 n3 : Nat} (h0 : n1 + n2 ≤ 5) (h1 : 0 < n2) (h2 : n3 ≤ n0) (h3 : n2 ≤ n3) : n0 = n0 - 1 + 1 := by first | lia | grind | omega
theorem zq606 {n0 n1 n2 n3 : Nat} (h0 : n1 < n2) (h1 : n2 + 1 ≤ n0 ∧ n0 < n2 + 1 + (n3 - (n2 + 1))) : ¬n0 = n1 := by first | lia | grind | omega
theorem zq607 {n0 n1 n2 n3 : Nat} (h0 : n1 = n0 + 2) (h1 : n2 = 2 * n0) (h2 : 2 * n0 - n3 = n0) : n0 + 1 = n1 - 1 := by first | exact Eq.symm ((fun {n m} => Iff.mpr Nat.pred_eq_succ_iff) h0) | simp_all | omega
theorem zq608 {n0 n1 n2 n3 : Nat} (h0 : n1 = n0 + 2) (h1 : n2 = 2 * n0) (h2 : 2 * n0 - n3 = n0 + 1) : n0 + 1 = n1 - 1 := by first | exact Eq.symm ((fun {n m} => Iff.mpr Nat.pred_eq_succ_iff) h0) | simp_all | omega
theorem zq609 {n0 n1 n2 n3 : Nat} (h0 : n1 = n2 + 1) (h1 : n3 ≤ n2) (h2 : n0 = n3 + 1) : n0 ≤ n1 := by first | simp_all | lia | omega
theorem zq610 {n0 n1 n2 n3 : Nat} (h0 : n1 = n3) (h1 : n0 < n1 + n2) : (↑n0 : Int) - (↑n1 : Int) ≤ (↑n2 : Int) - 1 := by first | lia | grind | (subst_vars; omega) | omega
theorem zq611 {n0 n1 n2 n3 : Nat} (h0 : n1 ≤ 100) (h1 : 0 < n1) (h2 : n1 - 1 = n2) (h3 : n0 < Int.toNat ((↑n3 : Int) + (↑n2 : Int) - 0)) (h4 : n0 < n2) : n0 ≤ 200 := by first | grind | lia | (subst_vars; omega) | omega
theorem zq612 {n0 n1 n2 n3 : Nat} (h0 : n1 ≤ 100) (h1 : n2 ≤ 100) (h2 : 0 < n1) (h3 : 0 < n2) (h4 : n1 - 1 = n3) (h5 : n0 < n3) : 0 + (↑n0 : Int) ≤ 65536 := by first | exact Mine.zq559 h0 h2 h4 h5 | omega
theorem zq613 {n0 n1 n2 n3 : Nat} (h0 : n1 ≤ 100) (h1 : n2 ≤ 100) (h2 : 0 < n1) (h3 : 0 < n2) (h4 : n2 - 1 = n3) (h5 : n0 < n3) : n0 + n1 ≤ 65536 := by first | lia | grind | (subst_vars; omega) | omega
theorem zq614 {n0 n1 n2 n3 : Nat} (h0 : n1 ≤ 100) (h1 : n3 ≤ 100) (h2 : 0 < n1) (h3 : 0 < n3) (h4 : n3 - 1 = n2) (h5 : n0 < n2) : n0 + n1 + (n2 - 1 - n0) ≤ 65536 := by first | grind | lia | (subst_vars; omega) | omega
theorem zq615 {n0 n1 n2 n3 : Nat} (h0 : n1 ≤ 5) (h1 : 0 < n1) (h2 : n0 ≤ n2) (h3 : n3 + n2 ≤ n1) : n0 ≤ 65536 := by first | grind | lia | omega
theorem zq616 {n0 n1 n2 n3 : Nat} (h0 : n1 ≤ n2) (h1 : 2 ≤ n2) (h2 : n2 ≤ 6) (h3 : n3 = n2) (h4 : n0 = n1) : n0 ≤ 6 := by first | lia | grind | (subst_vars; omega) | omega
theorem zq617 {n0 n1 n2 n3 : Nat} (h0 : n1 ≤ n2) (h1 : n2 ≤ 100) (h2 : 0 < n1) (h3 : n3 ≤ 100) (h4 : n1 ≤ n3) (h5 : n0 < n3) : n0 ≤ 100 := by first | lia | grind | omega
theorem zq618 {n0 n1 n2 n3 : Nat} (h0 : n1 ≤ n3) (h1 : n0 + 8 * n3 + 80 < n2) : n0 + 8 * n1 + 80 < n2 := by first | lia | grind | omega
theorem zq619 {n0 n1 n2 n3 : Nat} (h0 : n1 ≤ n3) (h1 : n0 + n3 < n2) : n0 + n1 < n2 := by first | lia | grind | omega
theorem zq620 {n0 n1 n2 n3 : Nat} (h0 : n2 + n0 ≤ n3) : n0 - n1 + (n2 - n1) ≤ n3 := by first | grind | lia | omega
theorem zq621 {n0 n1 n2 n3 : Nat} (h0 : n2 - 1 = n0) (h1 : n3 - 1 = n1) : -65536 ≤ (↑n0 : Int) + (↑n1 : Int) := by first | exact Int.neg_ofNat_le_ofNat 65536 (n0 + n1) | omega
theorem zq622 {n0 n1 n2 n3 : Nat} (h0 : n2 - 1 = n0) (h1 : n3 - 1 = n1) : Int.toNat ((↑n0 : Int) + (↑n1 : Int) - 0) = n0 + n1 := by first | rfl | exact Eq.symm (Nat.add_zero (Nat.add n0 n1)) | omega
theorem zq623 {n0 n1 n2 n3 : Nat} (h0 : n2 < n1) (h1 : n3 = n2 + 1) (h2 : n0 = n2 + 1) : n0 ≤ n1 := by first | exact Mine.zq154 h0 rfl h2 | lia | omega
theorem zq624 {n0 n1 n2 n3 : Nat} (h0 : n2 < n3) (h1 : n3 < n1) (h2 : n2 ≤ n0 ∧ n0 < n2 + (n1 - n2)) : n0 < n1 := by first | lia | grind | omega
theorem zq625 {n0 n1 n2 n3 : Nat} (h0 : n2 = n0 + 1) (h1 : n1 ≤ n0) (h2 : n3 = n1 + 1) : n0 + 1 - (n1 + 1) = n0 - n1 := by first | exact Nat.add_sub_add_right n0 1 n1 | simp_all | grind | omega
theorem zq626 {n0 n1 n2 n3 : Nat} (h0 : n2 = n3) (h1 : n1 < n2 + n0) (h2 : n2 ≤ n1) : (↑n0 : Int) - 1 - ((↑n1 : Int) - (↑n2 : Int)) = (↑(n0 - 1 - (n1 - n2)) : Int) := by first | (subst_vars; omega) | grind | lia | omega
theorem zq627 {n0 n1 n2 n3 : Nat} (h0 : n2 = n3) (h1 : n1 < n2 + n0) (h2 : n2 ≤ n1) : n0 - 1 - (n1 - n2) < n0 := by first | (subst_vars; omega) | omega
theorem zq628 {n0 n1 n2 n3 : Nat} (h0 : n2 = n3) (h1 : n2 ≤ n1) : (↑n0 : Int) - 1 - ((↑n1 : Int) - (↑n2 : Int)) < (↑n0 : Int) := by first | lia | grind | (subst_vars; omega) | omega
theorem zq629 {n0 n1 n2 n3 : Nat} (h0 : n2 = n3) (h1 : ¬n1 < n2 + n0) : (↑n0 : Int) - 1 < (↑n1 : Int) - (↑n2 : Int) := by first | lia | (subst_vars; omega) | grind | omega
theorem zq630 {n0 n1 n2 n3 : Nat} (h0 : n2 = n3) (h1 : ¬n2 ≤ n1) : (↑n0 : Int) ≤ (↑n0 : Int) - 1 - ((↑n1 : Int) - (↑n2 : Int)) := by first | lia | grind | (subst_vars; omega) | omega
theorem zq631 {n0 n1 n2 n3 : Nat} (h0 : n2 ≤ 100) (h1 : n3 ≤ 100) (h2 : 0 < n2) (h3 : 0 < n3) (h4 : n2 - 1 = n0) : (↑n0 : Int) - 1 - (0 + (↑n1 : Int)) ≤ 65536 := by first | lia | grind | (subst_vars; omega) | omega
theorem zq632 {n0 n1 n2 n3 : Nat} (h0 : n3 < Int.toNat ((↑n1 : Int) + (↑n2 : Int) - 0)) (h1 : n0 < Int.toNat ((↑n1 : Int) + (↑n2 : Int) - 0)) : n0 < n1 + n2 := by first | assumption | exact Mine.zq527 h1 | omega
theorem zq633 {n0 n1 n2 n3 : Nat} (h0 : n3 = n0) (h1 : ¬n1 < n2) (h2 : ¬n1 < n2 + n0) : n0 ≤ n1 - n2 := by first | grind | lia | (subst_vars; omega) | omega
theorem zq634 {n0 n1 n2 n3 : Nat} (h0 : n3 = n1 - 1 + (n2 - 1)) (h1 : n0 < n3) : n0 < n1 - 1 + (n2 - 1) := by first | simp_all | (subst_vars; omega) | exact Mine.zq557 (id (Eq.symm h0)) h1 | omega
theorem zq635 {n0 n1 n2 n3 : Nat} (h0 : n3 = n2) (h1 : ¬n1 < n0) (h2 : n1 < n0 + n2) : n0 ≤ n1 ∧ n1 < n0 + n2 := by first | simp_all | omega
theorem zq636 {n0 n1 n2 n3 : Nat} (h0 : n3 = n2) (h1 : ¬n1 < n0 + n2) : ¬(n0 ≤ n1 ∧ n1 < n0 + n2) := by first | exact (fun {a b} => Iff.mpr not_and) fun a => h1 | simp_all | omega
theorem zq637 {n0 n1 n2 n3 n4 : Nat} (h0 : n0 + n3 ≤ n2 + 1) (h1 : n4 = n0 + 1) (h2 : ¬n3 ≤ n0) (h3 : n1 < n4) (h4 : n1 ≤ n3) : n0 + n1 ≤ n2 := by first | lia | grind | (subst_vars; omega) | omega
theorem zq638 {n0 n1 n2 n3 n4 : Nat} (h0 : n0 = n2 - 1 + (n4 - 1)) (h1 : n1 < n0) (h2 : 0 < n2) (h3 : 0 < n4) (h4 : ¬n3 < n4 - 1) (h5 : n3 - (n4 - 1) ≤ n1 ∧ n1 < n3 - (n4 - 1) + n4) : ¬n0 - 1 - n1 < n2 - 1 - 1 - (n3 - (n4 - 1)) := by first | grind | lia | (simp; omega) | omega
theorem zq639 {n0 n1 n2 n3 n4 : Nat} (h0 : n0 = n2 - 1 + (n4 - 1)) (h1 : n1 < n0) (h2 : 0 < n2) (h3 : 0 < n4) (h4 : ¬n3 < n4 - 1) (h5 : ¬(n3 - (n4 - 1) ≤ n1 ∧ n1 < n3 - (n4 - 1) + n4)) (h6 : n1 < n3 - (n4 - 1)) : ¬n0 - 1 - n1 < n2 - 1 - 1 - (n3 - (n4 - 1)) := by first | lia | grind | (subst_vars; omega) | omega
theorem zq640 {n0 n1 n2 n3 n4 : Nat} (h0 : n0 = n2 - 1 + (n4 - 1)) (h1 : n1 < n0) (h2 : 0 < n2) (h3 : 0 < n4) (h4 : ¬n3 < n4 - 1) (h5 : ¬(n3 - (n4 - 1) ≤ n1 ∧ n1 < n3 - (n4 - 1) + n4)) (h6 : ¬n1 < n3 - (n4 - 1)) : n0 - 1 - n1 < n2 - 1 - 1 - (n3 - (n4 - 1)) := by first | grind | lia | (subst_vars; omega) | omega
theorem zq641 {n0 n1 n2 n3 n4 : Nat} (h0 : n0 = n2 - 1 + (n4 - 1)) (h1 : n3 < n0) (h2 : n1 < n0) (h3 : 0 < n2) (h4 : 0 < n4) (h5 : ¬n3 < n4 - 1) (h6 : n3 - (n4 - 1) ≤ n1 ∧ n1 < n3 - (n4 - 1) + n4) : n0 - 1 - n1 - (n2 - 1 - 1 - (n3 - (n4 - 1))) = n4 - 1 - (n1 - (n3 - (n4 - 1))) := by first | lia | grind | (subst_vars; omega) | omega
theorem zq642 {n0 n1 n2 n3 n4 : Nat} (h0 : n0 = n4 - 1 + (n2 - 1)) (h1 : n1 < n0) (h2 : 0 < n4) (h3 : 0 < n2) (h4 : n3 < n2 - 1) (h5 : n3 ≤ n1 ∧ n1 < n3 + n4) : n0 - 1 - n1 - (n2 - 1 - 1 - n3) = n4 - 1 - (n1 - n3) := by first | grind | lia | (subst_vars; omega) | omega
theorem zq643 {n0 n1 n2 n3 n4 : Nat} (h0 : n0 = n4 - 1 + (n2 - 1)) (h1 : n1 < n0) (h2 : 0 < n4) (h3 : 0 < n2) (h4 : n3 < n2 - 1) (h5 : ¬(n3 ≤ n1 ∧ n1 < n3 + n4)) (h6 : ¬n1 < n3) : n0 - 1 - n1 < n2 - 1 - 1 - n3 := by first | grind | lia | (subst_vars; omega) | omega
theorem zq644 {n0 n1 n2 n3 n4 : Nat} (h0 : n0 = n4 - 1 + (n2 - 1)) (h1 : n1 < n0) (h2 : 0 < n4) (h3 : 0 < n2) (h4 : n3 ≤ n1 ∧ n1 < n3 + n4) : ¬n0 - 1 - n1 < n2 - 1 - 1 - n3 := by first | (simp; omega) | grind | (subst_vars; omega) | omega
theorem zq645 {n0 n1 n2 n3 n4 : Nat} (h0 : n0 = n4 - 1 + (n2 - 1)) (h1 : n1 < n0) (h2 : 0 < n4) (h3 : 0 < n2) (h4 : ¬(n3 ≤ n1 ∧ n1 < n3 + n4)) (h5 : n1 < n3) : ¬n0 - 1 - n1 < n2 - 1 - 1 - n3 := by first | grind | (subst_vars; omega) | lia | omega
theorem zq646 {n0 n1 n2 n3 n4 : Nat} (h0 : n0 ≤ n1 + 1) (h1 : n2 + 1 + n3 = n4 + (n1 + 1)) (h2 : ¬n0 = n1 + 1) : n0 ≤ n1 := by first | lia | grind | omega
theorem zq647 {n0 n1 n2 n3 n4 : Nat} (h0 : n1 + 1 - n2 = n3) (h1 : n0 + n4 = n3) (h2 : n3 ≤ 101) : n0 ≤ 101 := by first | grind | lia | (subst_vars; omega) | omega
theorem zq648 {n0 n1 n2 n3 n4 : Nat} (h0 : n1 + 1 - n2 = n3) (h1 : n4 + n0 = n3) (h2 : n3 ≤ 101) : n0 ≤ 101 := by first | grind | lia | (subst_vars; omega) | omega
theorem zq649 {n0 n1 n2 n3 n4 : Nat} (h0 : n1 = n0 - 1 + (n3 - 1)) (h1 : n4 < n1) (h2 : n2 < n1) (h3 : 0 < n0) (h4 : 0 < n3) (h5 : n4 < n3 - 1) (h6 : ¬(n4 ≤ n2 ∧ n2 < n4 + n0)) (h7 : n2 < n4) : n0 ≤ n1 - 1 - n2 - (n3 - 1 - 1 - n4) := by first | grind | (subst_vars; omega) | lia | omega
theorem zq650 {n0 n1 n2 n3 n4 : Nat} (h0 : n1 = n3 - 1 + (n0 - 1)) (h1 : n4 < n1) (h2 : n2 < n1) (h3 : 0 < n3) (h4 : 0 < n0) (h5 : ¬n4 < n0 - 1) (h6 : ¬(n4 - (n0 - 1) ≤ n2 ∧ n2 < n4 - (n0 - 1) + n0)) (h7 : n2 < n4 - (n0 - 1)) : n0 ≤ n1 - 1 - n2 - (n3 - 1 - 1 - (n4 - (n0 - 1))) := by first | grind | lia | (subst_vars; omega) | omega
theorem zq651 {n0 n1 n2 n3 n4 : Nat} (h0 : n1 ≤ 100) (h1 : n2 ≤ 100) (h2 : 0 < n1) (h3 : 0 < n2) (h4 : n1 - 1 = n3) (h5 : n2 - 1 = n4) (h6 : n0 < Int.toNat ((↑n3 : Int) + (↑n4 : Int) - 0)) : n0 ≤ 65536 := by first | lia | grind | (subst_vars; omega) | omega
theorem zq652 {n0 n1 n2 n3 n4 : Nat} (h0 : n1 ≤ n2) (h1 : n2 ≤ 100) (h2 : 0 < n1) (h3 : n2 + 1 - n1 = n0) (h4 : n3 + n4 = n0) : n0 ≤ 101 := by first | grind | lia | (subst_vars; omega) | omega
theorem zq653 {n0 n1 n2 n3 n4 : Nat} (h0 : n2 = n3) (h1 : n4 + n3 = n1) (h2 : n0 = n1) : n0 ≤ n1 := by first | exact Nat.le_of_eq h2 | simp_all | omega
theorem zq654 {n0 n1 n2 n3 n4 : Nat} (h0 : n2 ≤ 100) (h1 : n3 ≤ 100) (h2 : 0 < n2) (h3 : 0 < n3) (h4 : n2 - 1 = n4) (h5 : n0 < Int.toNat ((↑n4 : Int) + (↑n1 : Int) - 0)) (h6 : n0 < n4 + n1) (h7 : ¬n0 < n1) : n0 - n1 ≤ 200 := by first | lia | grind | (subst_vars; omega) | omega
theorem zq655 {n0 n1 n2 n3 n4 : Nat} (h0 : n2 ≤ n1) (h1 : n0 ≤ n3) (h2 : n3 < n2) (h3 : n4 = n0) : n0 ≤ n1 := by first | lia | grind | (subst_vars; omega) | omega
theorem zq656 {n0 n1 n2 n3 n4 : Nat} (h0 : n2 ≤ n1) (h1 : n2 + n3 > n4 + n4) (h2 : n1 + n3 - n4 - n4 - 1 = n0) : n0 - (n1 - n2) = n3 + n2 - n4 - n4 - 1 := by first | (subst_vars; omega) | lia | grind | omega
theorem zq657 {n0 n1 n2 n3 n4 : Nat} (h0 : n2 ≤ n3) (h1 : n3 + (n4 - n2) ≤ n0) (h2 : n1 < n3 - n2) : ¬n0 < n1 := by first | grind | lia | omega
theorem zq658 {n0 n1 n2 n3 n4 : Nat} (h0 : n2 ≤ n3) (h1 : n4 = n2) (h2 : n0 + n2 = n3) : 0 ≤ (↑(n0 + n1) : Int) := by first | exact Int.natCast_nonneg (n0 + n1) | omega
theorem zq659 {n0 n1 n2 n3 n4 : Nat} (h0 : n3 + 1 + n0 = n4 + (n2 + 1)) (h1 : n1 + 1 + 1 + n0 = n4 + (n2 + 1)) : ¬n0 + 1 + n1 < n2 := by first | lia | grind | omega
theorem zq660 {n0 n1 n2 n3 n4 : Nat} (h0 : n3 ≤ n0) (h1 : n3 ≤ n4) (h2 : n4 + (n0 - n3) ≤ n1) (h3 : n2 < n4 - n3) : n0 < n1 - n2 := by first | grind | lia | omega
theorem zq661 {n0 n1 n2 n3 n4 : Nat} (h0 : n4 + 1 + n0 = n3 + (n2 + 1)) (h1 : n1 + 1 + 1 + n0 = n3 + (n2 + 1)) : n0 + 1 + n1 - n2 = n3 := by first | lia | grind | omega
theorem zq662 {n0 n1 n2 n3 n4 : Nat} (h0 : n4 + 1 + n1 = n2 + (n3 + 1)) (h1 : n0 + 1 + 1 + n1 = n2 + (n3 + 1)) : n0 + 1 + n1 = n2 + n3 := by first | lia | grind | omega
theorem zq663 {n0 n1 n2 n3 n4 : Nat} (h0 : n4 ≤ n3) (h1 : n1 ≤ n4) (h2 : n4 + n2 > n1 + n1) (h3 : n3 + n2 - n1 - n1 - 1 = n0) : n0 + 1 + n1 = n2 + (n3 - n1) := by first | lia | grind | omega
theorem zq664 {n0 n1 n2 n3 n4 n5 : Nat} (h0 : n1 ≤ 100) (h1 : n2 ≤ 100) (h2 : 0 < n1) (h3 : 0 < n2) (h4 : n1 - 1 = n3) (h5 : n2 - 1 = n4) (h6 : n5 < Int.toNat ((↑n3 : Int) + (↑n4 : Int) - 0)) (h7 : n0 < n3 + n4) : n0 ≤ 65536 := by first | lia | grind | (subst_vars; omega) | omega
theorem zq665 {n0 n1 n2 n3 n4 n5 : Nat} (h0 : n1 ≤ 100) (h1 : n2 ≤ 100) (h2 : 0 < n1) (h3 : 0 < n2) (h4 : n3 = n1) (h5 : n4 = n2) (h6 : n5 = n1 + n2 - 1) (h7 : n0 = n1 + n2 - 1) : n0 ≤ 65536 := by first | lia | grind | (subst_vars; omega) | omega
theorem zq666 {n0 n1 n2 n3 n4 n5 : Nat} (h0 : n1 ≤ 5) (h1 : 0 < n1) (h2 : n2 ≤ n1) (h3 : n3 = n4) (h4 : n5 + n4 = n2) (h5 : n0 = n2) : n0 ≤ 65536 := by first | lia | grind | (subst_vars; omega) | omega
theorem zq667 {n0 n1 n2 n3 n4 n5 : Nat} (h0 : n1 ≤ n2) (h1 : n2 ≤ 100) (h2 : 0 < n1) (h3 : n2 + 1 - n1 = n3) (h4 : n3 ≤ 101) (h5 : n1 ≤ n0) (h6 : n0 + 1 ≤ n1 + (n4 + 1)) (h7 : n5 + (n4 + 1) = n3) : n0 - n1 + n1 ≤ 65536 := by first | lia | grind | (subst_vars; omega) | omega
theorem zq668 {n0 n1 n2 n3 n4 n5 : Nat} (h0 : n2 + 1 + n3 = n4 + (n0 + 1)) (h1 : n1 ≤ n0) (h2 : n5 + 1 + 1 + n3 = n4 + (n0 + 1)) : n0 + 1 - n1 = n0 - n1 + 1 := by first | exact Nat.sub_add_comm h1 | omega
theorem zq669 {n0 n1 n2 n3 n4 n5 : Nat} (h0 : n2 = n3) (h1 : n4 + n3 = n1) (h2 : n5 = n1) (h3 : n0 ≤ n1) : n0 ≤ n1 + 1 := by first | exact Mine.zq417 h3 | grind | omega
theorem zq670 {n0 n1 n2 n3 n4 n5 : Nat} (h0 : n2 ≤ 100) (h1 : n1 ≤ 100) (h2 : 0 < n2) (h3 : 0 < n1) (h4 : n2 - 1 = n3) (h5 : n1 - 1 = n4) (h6 : n5 = n4) (h7 : n0 < n3) : n0 + n1 ≤ 65536 := by first | lia | grind | (subst_vars; omega) | omega
theorem zq671 {n0 n1 n2 n3 n4 n5 : Nat} (h0 : n2 ≤ 100) (h1 : n3 ≤ 100) (h2 : 0 < n2) (h3 : 0 < n3) (h4 : n2 - 1 = n4) (h5 : n3 - 1 = n5) (h6 : n0 = n5) (h7 : n1 < n4) : n0 + n1 ≤ 65536 := by first | lia | grind | (subst_vars; omega) | omega
theorem zq672 {n0 n1 n2 n3 n4 n5 : Nat} (h0 : n2 ≤ 100) (h1 : n3 ≤ 100) (h2 : 0 < n2) (h3 : 0 < n3) (h4 : n4 = n2) (h5 : n5 = n3) (h6 : n0 < n2) (h7 : n1 < n3) : 0 ≤ (↑(n0 + n1) : Int) := by first | exact Int.natCast_nonneg (n0 + n1) | grind | lia | omega
theorem zq673 {n0 n1 n2 n3 n4 n5 : Nat} (h0 : n3 + 1 + n0 = n4 + (n5 + 1)) (h1 : n1 + 1 + 1 + n0 = n4 + (n5 + 1)) (h2 : n2 < n5) : ¬n0 + 1 + n1 < n2 := by first | lia | grind | omega
theorem zq674 {n0 n1 n2 n3 n4 n5 : Nat} (h0 : n3 + 1 + n4 = n5 + (n1 + 1)) (h1 : n2 + n5 > n4) (h2 : n2 ≤ n1) (h3 : n0 + 1 + 1 + n4 = n5 + (n1 + 1)) : n0 + 1 - (n1 - n2 + 1) = n0 - (n1 - n2) := by first | exact Nat.add_sub_add_right n0 1 (n1 - n2) | simp_all | grind | omega
theorem zq675 {n0 n1 n2 n3 n4 n5 : Nat} (h0 : n3 + n1 ≤ n2 + 1) (h1 : n4 = n3 + 1) (h2 : n1 ≤ n3) (h3 : n0 < n1) (h4 : n0 ≤ n3) (h5 : n5 = n0 + 1) : n0 + n1 ≤ n2 := by first | lia | grind | (subst_vars; omega) | omega
theorem zq676 {n0 n1 n2 n3 n4 n5 : Nat} (h0 : n3 + n4 ≤ n1 + 1 ∨ n4 = 0) (h1 : n5 ≤ n1) (h2 : n2 ≤ n5) (h3 : n2 ≤ n3) (h4 : n5 + n3 > n2 + n2) (h5 : n0 + 1 < n3 - n2 + n4) (h6 : n4 ≠ 0) : n0 < n1 - n2 := by first | grind | lia | omega
theorem zq677 {n0 n1 n2 n3 n4 n5 : Nat} (h0 : n3 = n2) (h1 : n0 + n2 = n4) (h2 : n5 = n4) (h3 : ¬n1 < n0) (h4 : n1 < n0 + n2) : n0 ≤ n1 ∧ n1 < n0 + n2 := by first | exact Mine.zq635 h0 h3 h4 | simp_all | omega
theorem zq678 {n0 n1 n2 n3 n4 n5 : Nat} (h0 : n3 = n2) (h1 : n0 + n2 = n4) (h2 : n5 = n4) (h3 : ¬n1 < n0 + n2) : ¬(n0 ≤ n1 ∧ n1 < n0 + n2) := by first | exact Mine.zq636 h0 h3 | simp_all | lia | omega
theorem zq679 {n0 n1 n2 n3 n4 n5 : Nat} (h0 : n3 = n4) (h1 : n0 + n4 = n5) (h2 : n2 = n5) (h3 : n1 < n4) : (↑(n0 + n1) : Int) < (↑n2 : Int) := by first | lia | grind | (subst_vars; omega) | omega
theorem zq680 {n0 n1 n2 n3 n4 n5 : Nat} (h0 : n3 = n4) (h1 : n0 + n4 = n5) (h2 : n2 = n5) (h3 : n1 < n4) : n0 + n1 < n2 := by first | lia | grind | (subst_vars; omega) | omega
theorem zq681 {n0 n1 n2 n3 n4 n5 : Nat} (h0 : n3 ≤ 100) (h1 : n1 ≤ 100) (h2 : 0 < n3) (h3 : 0 < n1) (h4 : n3 - 1 = n2) (h5 : n1 - 1 = n4) (h6 : n5 = n4) (h7 : n0 < n2) : n0 + n1 + (n2 - 1 - n0) ≤ 65536 := by first | grind | lia | (subst_vars; omega) | omega
theorem zq682 {n0 n1 n2 n3 n4 n5 : Nat} (h0 : n4 + 1 + n1 = n0 + (n5 + 1)) (h1 : n2 + 1 + 1 + n1 = n0 + (n5 + 1)) (h2 : n3 < n5) : n0 < n1 + 1 + n2 - n3 := by first | lia | grind | omega
theorem zq683 {n0 n1 n2 n3 n4 n5 : Nat} (h0 : n4 + 1 + n2 = n0 + (n5 + 1)) (h1 : n1 ≤ n5) (h2 : n3 + 1 + 1 + n2 = n0 + (n5 + 1)) : n0 + n1 ≤ n2 + 1 + n3 := by first | lia | grind | omega
theorem zq684 {n0 n1 n2 n3 n4 n5 n6 : Nat} (h0 : n2 ≤ n1) (h1 : n3 = n4) (h2 : n5 + n4 = n2) (h3 : n6 = n2) (h4 : n0 ≤ n2) : n0 ≤ n1 := by first | exact Nat.le_trans h4 h0 | omega
theorem zq685 {n0 n1 n2 n3 n4 n5 n6 : Nat} (h0 : n2 ≤ n1 + 1) (h1 : n3 = n4) (h2 : n5 + n4 = n2) (h3 : n6 = n2) (h4 : n0 < n2) : n0 ≤ n1 := by first | lia | grind | (subst_vars; omega) | omega
theorem zq686 {n0 n1 n2 n3 n4 n5 n6 : Nat} (h0 : n3 + n0 ≤ 5) (h1 : 0 < n0) (h2 : n4 = n0) (h3 : n2 + n0 = n5) (h4 : n6 = n5) (h5 : ¬n1 < n2) (h6 : ¬n1 < n2 + n0) : n0 ≤ n1 - n2 := by first | grind | lia | (subst_vars; omega) | omega
theorem zq687 {n0 n1 n2 n3 n4 n5 n6 n7 : Nat} (h0 : n3 = n4) (h1 : n5 = n6) (h2 : n7 = n4 + n6 - 1) (h3 : n0 < n4) (h4 : n2 = n4 + n6 - 1) (h5 : n1 < n6) : n0 + n1 < n2 := by first | grind | lia | (subst_vars; omega) | omega
theorem zq688 {n0 n1 n2 n3 n4 n5 n6 n7 n8 : Nat} (h0 : n2 ≤ n3) (h1 : n3 ≤ 100) (h2 : 0 < n2) (h3 : n3 + 1 - n2 = n4) (h4 : n5 ≤ 100) (h5 : n6 ≤ 201) (h6 : n4 ≤ 101) (h7 : n2 ≤ n5) (h8 : n5 + 1 ≤ n2 + (n7 + 1)) (h9 : n8 + (n7 + 1) = n4) (h10 : n0 ≤ n6) (h11 : n1 ≤ n5 - n2 + 1) : Max.max n0 n1 ≤ 201 := by first | lia | grind | omega
end Mine
namespace Mine.Law

abbrev Row := Nat → Int
noncomputable def lap (c : Nat) (F : List Row → Int) : List Row → Int
  | [] => 0
  | r :: rs => r c * F rs - lap c (fun rs' => F (r :: rs')) rs
noncomputable def det : List Nat → List Row → Int
  | [], [] => 1
  | [], _ :: _ => 0
  | c :: cs, rs => lap c (det cs) rs

noncomputable def lc (a : Int) (r : Row) (b : Int) (s : Row) : Row := fun i => a * r i + b * s i
noncomputable def ML (F : List Row → Int) : Prop := ∀ pre post r s a b, F (pre ++ lc a r b s :: post) = a * F (pre ++ r :: post) + b * F (pre ++ s :: post)
noncomputable def Alt (F : List Row → Int) : Prop := ∀ pre post r, F (pre ++ r :: r :: post) = 0

theorem lap_lin (c : Nat) : ∀ (rs : List Row) (F G H : List Row → Int) (a b : Int), (∀ l, F l = a * G l + b * H l) → lap c F rs = a * lap c G rs + b * lap c H rs
  | [], F, G, H, a, b, h => by simp [lap]
  | r :: rs, F, G, H, a, b, h => by
    simp only [lap]
    rw [h, lap_lin c rs (fun rs' => F (r :: rs')) (fun rs' => G (r :: rs')) (fun rs' => H (r :: rs')) a b fun l => h _]
    grind
theorem lap_zero (c : Nat) : ∀ (rs : List Row) (F : List Row → Int), (∀ l, F l = 0) → lap c F rs = 0
  | [], F, h => rfl
  | r :: rs, F, h => by simp only [lap]; rw [h, lap_zero c rs _ fun l => h _]; simp
theorem ML.lap {F : List Row → Int} (h : ML F) (c : Nat) : ML (lap c F)
  | [], post, r, s, a, b => by
    simp only [List.nil_append, Law.lap]
    rw [lap_lin c post (fun rs' => F (lc a r b s :: rs')) (fun rs' => F (r :: rs')) (fun rs' => F (s :: rs')) a b fun l => h [] l r s a b]
    simp only [lc]; grind
  | p :: pre, post, r, s, a, b => by
    simp only [List.cons_append, Law.lap]
    rw [h pre post r s a b, ML.lap (F := fun rs' => F (p :: rs')) (fun pre post r s a b => h (p :: pre) post r s a b) c pre post r s a b]
    grind
theorem Alt.lap {F : List Row → Int} (h : Alt F) (c : Nat) : Alt (lap c F)
  | [], post, r => by
    simp only [List.nil_append, Law.lap]
    rw [lap_zero c post (fun rs' => F (r :: r :: rs')) fun l => h [] l r]
    grind
  | p :: pre, post, r => by
    simp only [List.cons_append, Law.lap]
    rw [h pre post r, Alt.lap (F := fun rs' => F (p :: rs')) (fun pre post r => h (p :: pre) post r) c pre post r]
    simp
theorem det_ML : ∀ cs, ML (det cs)
  | [] => fun pre post r s a b => by cases pre <;> simp [det]
  | c :: cs => fun pre post r s a b => (det_ML cs).lap c pre post r s a b
theorem det_Alt : ∀ cs, Alt (det cs)
  | [] => fun pre post r => by cases pre <;> simp [det]
  | c :: cs => fun pre post r => (det_Alt cs).lap c pre post r

section
variable {F : List Row → Int} (m : ML F) (t : Alt F)
include m t
theorem f_swap (pre post : List Row) (r s : Row) : F (pre ++ r :: s :: post) = - F (pre ++ s :: r :: post) := by
  have h0 := t pre post (lc 1 r 1 s)
  have h1 := m pre (lc 1 r 1 s :: post) r s 1 1
  have h2 := m (pre ++ [r]) post r s 1 1
  have h3 := m (pre ++ [s]) post r s 1 1
  have e1 := t pre post r
  have e2 := t pre post s
  simp only [List.append_assoc, List.cons_append, List.nil_append] at h2 h3
  grind
theorem f_move : ∀ (xs pre post : List Row) (r : Row), F (pre ++ (xs ++ r :: post)) = (-1) ^ xs.length * F (pre ++ (r :: xs ++ post))
  | [], pre, post, r => by simp
  | x :: xs, pre, post, r => by
    have h1 := f_move xs (pre ++ [x]) post r
    have h2 := f_swap m t pre (xs ++ post) x r
    simp only [List.append_assoc, List.cons_append, List.nil_append] at h1 h2 ⊢
    rw [h1, h2, List.length_cons, Int.pow_succ]
    grind
theorem f_block : ∀ (ys pre xs post : List Row), F (pre ++ (xs ++ (ys ++ post))) = (-1) ^ (xs.length * ys.length) * F (pre ++ (ys ++ (xs ++ post)))
  | [], pre, xs, post => by simp
  | y :: ys, pre, xs, post => by
    have h1 := f_move m t xs pre (ys ++ post) y
    have h2 := f_block ys (pre ++ [y]) xs post
    simp only [List.append_assoc, List.cons_append, List.nil_append] at h1 h2 ⊢
    rw [h1, h2, List.length_cons, show xs.length * (ys.length + 1) = xs.length + xs.length * ys.length by rw [Nat.mul_succ, Nat.add_comm], Int.pow_add]
    grind
theorem f_eq (pre mid post : List Row) (r : Row) : F (pre ++ (r :: (mid ++ r :: post))) = 0 := by
  have h1 := f_move m t mid (pre ++ [r]) post r
  have h2 := t pre (mid ++ post) r
  simp only [List.append_assoc, List.cons_append, List.nil_append] at h1 h2 ⊢
  rw [h1, h2]; simp
/-- a row's multiple is added to another, which lies ahead -/
theorem f_add (pre post : List Row) (r s : Row) (a : Int) (hs : s ∈ post) : F (pre ++ lc 1 r a s :: post) = F (pre ++ r :: post) := by
  obtain ⟨mid, rest, rfl⟩ := List.append_of_mem hs
  rw [m pre _ r s 1 a]
  have := f_eq m t pre mid rest s
  rw [this]; simp
end

theorem lap_col0 (c : Nat) : ∀ (rs : List Row) (F : List Row → Int), (∀ r ∈ rs, r c = 0) → lap c F rs = 0
  | [], F, _ => rfl
  | r :: rs, F, h => by
    simp only [lap]
    rw [h r List.mem_cons_self, lap_col0 c rs _ fun s hs => h s (List.mem_cons_of_mem _ hs)]; simp
theorem det_tri (c : Nat) (cs : List Nat) (r : Row) (rs : List Row) (h : ∀ s ∈ rs, s c = 0) : det (c :: cs) (r :: rs) = r c * det cs rs := by
  simp only [det, lap]
  rw [lap_col0 c rs _ h]; simp
theorem lc_ext {r s : Row} (h : ∀ i, r i = s i) : r = s := funext h

/-- the rows, relabelled -/
theorem lap_map (c : Nat) (f : Nat → Nat) : ∀ (rs : List Row) (F G : List Row → Int), (∀ l, F (l.map fun r i => r (f i)) = G l) → lap c F (rs.map fun r i => r (f i)) = lap (f c) G rs
  | [], F, G, h => rfl
  | r :: rs, F, G, h => by
    simp only [List.map_cons, lap]
    rw [h rs, lap_map c f rs (fun rs' => F ((fun i => r (f i)) :: rs')) (fun rs' => G (r :: rs')) fun l => h (r :: l)]
theorem det_map (f : Nat → Nat) : ∀ (cs : List Nat) (rs : List Row), det cs (rs.map fun r i => r (f i)) = det (cs.map f) rs
  | [], [] => rfl
  | [], _ :: _ => rfl
  | c :: cs, rs => by
    simp only [List.map_cons, det]
    exact lap_map c f rs _ _ (det_map f cs)

/-- all rows of a list are scaled -/
theorem f_scale {F : List Row → Int} (m : ML F) : ∀ (xs pre post : List Row) (c : Int), F (pre ++ (xs.map (fun r i => c * r i) ++ post)) = c ^ xs.length * F (pre ++ (xs ++ post))
  | [], pre, post, c => by simp
  | x :: xs, pre, post, c => by
    have h1 := m pre (xs.map (fun r i => c * r i) ++ post) x x c 0
    have h2 := f_scale m xs (pre ++ [x]) post c
    have e : lc c x 0 x = fun i => c * x i := by funext i; simp [lc]
    rw [e] at h1
    simp only [List.append_assoc, List.cons_append, List.nil_append, List.map_cons] at h1 h2 ⊢
    rw [h1, h2, List.length_cons, Int.pow_succ]
    grind

/-- shifted by i -/
noncomputable def sh (i : Nat) (A : Row) : Row := fun d => if d < i then 0 else A (d - i)
/-- x^(k-1) A, ..., A -/
noncomputable def rows (A : Row) : Nat → List Row
  | 0 => []
  | k + 1 => sh k A :: rows A k
theorem rows_len (A : Row) : ∀ k, (rows A k).length = k
  | 0 => rfl
  | k + 1 => by simp [rows, rows_len A k]
theorem mem_rows {A : Row} : ∀ {k i : Nat}, i < k → sh i A ∈ rows A k
  | k + 1, i, h => by
    by_cases q : i = k
    · subst q; exact List.mem_cons_self
    · exact List.mem_cons_of_mem _ (mem_rows (by (exact zq400 h q)))
theorem of_mem_rows {A : Row} : ∀ {k : Nat} {r : Row}, r ∈ rows A k → ∃ i, i < k ∧ r = sh i A
  | k + 1, r, h => by
    rcases List.mem_cons.mp h with q | q
    · exact ⟨k, by (exact zq3), q⟩
    · obtain ⟨i, hi, e⟩ := of_mem_rows q; exact ⟨i, by (exact zq15 hi), e⟩

/-- a sum of shifts of B -/
noncomputable def cm (B : Row) (q : Nat → Int) (i : Nat) : Nat → Row
  | 0 => fun _ => 0
  | K + 1 => fun d => cm B q i K d + q K * sh (i + K) B d
theorem sh_cm (B : Row) (q : Nat → Int) (i : Nat) : ∀ K d, sh i (cm B q 0 K) d = cm B q i K d
  | 0, d => by simp [sh, cm]
  | K + 1, d => by
    have h := sh_cm B q i K d
    simp only [sh, cm, Nat.zero_add] at h ⊢
    by_cases hd : d < i
    · rw [if_pos hd] at h ⊢
      rw [← h, if_pos (by (exact zq141 hd))]; simp
    · rw [if_neg hd] at h ⊢
      rw [← h]
      by_cases h2 : d - i < K
      · rw [if_pos h2, if_pos (by (exact zq147 hd h2))]
      · rw [if_neg h2, if_neg (by (exact zq148 hd h2)), show d - i - K = d - (i + K) by (exact zq493)]
theorem f_cm {F : List Row → Int} (m : ML F) (t : Alt F) (B : Row) (q : Nat → Int) (i : Nat) (pre post : List Row) (r : Row) : ∀ K, (∀ s, s < K → sh (i + s) B ∈ post) → F (pre ++ (fun d => cm B q i K d + r d) :: post) = F (pre ++ r :: post)
  | 0, _ => by simp [cm]
  | K + 1, h => by
    have h1 := f_cm m t B q i pre post r K fun s hs => h s (by (exact zq15 hs))
    have h2 := f_add m t pre post (fun d => cm B q i K d + r d) (sh (i + K) B) (q K) (h K (by (exact zq3)))
    rw [← h1, ← h2]
    congr 2
    congr 1
    funext d
    simp only [cm, lc]; grind

/-- c A = sum of shifts of B + β C, in every row of A's -/
theorem f_reduce {F : List Row → Int} (m : ML F) (t : Alt F) {A B C : Row} {c β : Int} {q : Nat → Int} {K : Nat} (h : ∀ d, c * A d = cm B q 0 K d + β * C d) (post : List Row) :
    ∀ (k : Nat) (pre : List Row), (∀ s, s + 1 < k + K → K ≠ 0 → sh s B ∈ post) → c ^ k * F (pre ++ (rows A k ++ post)) = β ^ k * F (pre ++ (rows C k ++ post))
  | 0, pre, _ => by simp [rows]
  | k + 1, pre, hs => by
    have e1 : (fun d => c * sh k A d) = fun d => cm B q k K d + (fun d => β * sh k C d) d := by
      funext d
      rw [← sh_cm]
      simp only [sh]
      by_cases hd : d < k
      · simp [hd]
      · simp only [hd, if_false]; exact h _
    have h0 := m pre (rows A k ++ post) (sh k A) (sh k A) c 0
    have e0 : lc c (sh k A) 0 (sh k A) = fun d => c * sh k A d := by funext d; simp [lc]
    rw [e0, e1] at h0
    have h1 := f_cm m t B q k pre (rows A k ++ post) (fun d => β * sh k C d) K fun s hs' => List.mem_append_right _ (hs _ (by (exact zq553 hs')) (by (exact zq443 hs')))
    have h2 := m pre (rows A k ++ post) (sh k C) (sh k C) β 0
    have e2 : lc β (sh k C) 0 (sh k C) = fun d => β * sh k C d := by funext d; simp [lc]
    rw [e2] at h2
    have h3 := f_reduce m t h post k (pre ++ [sh k C]) fun s hs' hk => hs s (by (exact zq519 hs')) hk
    simp only [List.append_assoc, List.cons_append, List.nil_append] at h3
    simp only [rows, List.cons_append]
    rw [Int.pow_succ, Int.pow_succ]
    grind

/-- the columns N-1, ..., j+1, then k -/
noncomputable def cols (j k : Nat) : Nat → List Nat
  | 0 => [k]
  | t + 1 => (j + 1 + t) :: cols j k t
/-- the k-th coefficient of the j-th subresultant -/
noncomputable def sub (j k : Nat) (m n : Nat) (A B : Row) : Int := det (cols j k (m + n - j - j - 1)) (rows A (n - j) ++ rows B (m - j))

theorem cols_tri {j k : Nat} {B : Row} {n : Nat} (hB : ∀ d, n < d → B d = 0) (post : List Row) (l : Nat) : ∀ (t : Nat) (T : Nat), l ≤ t → (∀ r ∈ post, ∀ d, n + l ≤ d → r d = 0) → T + 1 + j = n + t → l + n > j →
    det (cols j k (T)) (rows B t ++ post) = B n ^ (t - l) * det (cols j k (T - (t - l))) (rows B l ++ post)
  | 0, T, hl, hp, hT, hj => by
    have : l = 0 := by (exact zq42 hl)
    subst this; simp
  | t + 1, T, hl, hp, hT, hj => by
    by_cases q : l = t + 1
    · subst q; simp
    · have hlt : l ≤ t := by (exact zq646 hl hT q)
      match T, hT with
      | 0, hT => (exact zq189 (by assumption) hj hlt hT)
      | T' + 1, hT =>
        have e : cols j k (T' + 1) = (j + 1 + T') :: cols j k T' := rfl
        rw [e]
        show det ((j + 1 + T') :: cols j k T') (sh t B :: (rows B t ++ post)) = _
        rw [det_tri]
        · rw [cols_tri hB post l t T' hlt hp (by (exact zq662 (by assumption) hT)) hj]
          have e1 : sh t B (j + 1 + T') = B n := by simp only [sh]; rw [if_neg (by (exact zq659 (by assumption) hT))]; congr 1; (exact zq661 (by assumption) hT)
          rw [e1, show t + 1 - l = (t - l) + 1 by (exact zq668 (by assumption) hlt hT), Int.pow_succ, show T' + 1 - (t - l + 1) = T' - (t - l) by (exact zq674 (by assumption) hj hlt hT)]
          grind
        · intro s hs
          rcases List.mem_append.mp hs with hs | hs
          · obtain ⟨i, hi, rfl⟩ := of_mem_rows hs
            simp only [sh]; rw [if_neg (by (exact zq673 (by assumption) hT hi))]; exact hB _ (by (exact zq682 (by assumption) hT hi))
          · exact hp s hs _ (by (exact zq683 (by assumption) hlt hT))

/-- the step of the remainders -/
theorem sub_step {A B C : Row} {m n l j k : Nat} {c β : Int} {q : Nat → Int} {K : Nat} (h : ∀ d, c * A d = cm B q 0 K d + β * C d) (hB : ∀ d, n < d → B d = 0) (hC : ∀ d, l < d → C d = 0)
    (hK : n + K ≤ m + 1 ∨ K = 0) (hl : l ≤ m) (hj : j ≤ l) (hjn : j ≤ n) (hjj : l + n > j + j) :
    c ^ (n - j) * sub j k m n A B = (-1) ^ ((n - j) * (m - j)) * (β ^ (n - j) * (B n ^ (m - l) * sub j k n l B C)) := by
  unfold sub
  generalize hT : m + n - j - j - 1 = T
  have M := det_ML (cols j k T)
  have X := det_Alt (cols j k T)
  have h1 := f_reduce M X h (rows B (m - j)) (n - j) [] fun s hs hk => mem_rows (by (exact zq676 hK hl hj hjn hjj hs hk))
  have h2 := f_block M X (rows B (m - j)) [] (rows C (n - j)) []
  simp only [List.nil_append, List.append_nil, rows_len] at h1 h2
  rw [h1, h2]
  have h3 := cols_tri (j := j) (k := k) hB (rows C (n - j)) (l - j) (m - j) T (by (exact zq538 hl hj)) (fun r hr d hd => by
    obtain ⟨i, hi, rfl⟩ := of_mem_rows hr
    simp only [sh]; rw [if_neg (by (exact zq657 hjn hd hi))]; exact hC _ (by (exact zq660 hj hjn hd hi))) (by (exact zq663 hl hj hjj hT)) (by (exact zq565 hj hjj))
  rw [h3, show m - j - (l - j) = m - l by (exact zq581 hl hj), show T - (m - l) = n + l - j - j - 1 by (exact zq656 hl hjj hT)]
  grind
end Mine.Law
namespace Mine.Law

noncomputable def cf (l : List Int) : Row := fun i => l.getD i 0
noncomputable def lead (l : List Int) : Int := l.getD (l.length - 1) 0
noncomputable def Norm (l : List Int) : Prop := l ≠ [] → lead l ≠ 0
noncomputable def trim : List Int → List Int
  | [] => []
  | x :: r => if trim r = [] then (if x = 0 then [] else [x]) else x :: trim r

theorem trim_cf : ∀ l i, cf (trim l) i = cf l i
  | [], i => rfl
  | x :: r, i => by
    have ih := trim_cf r
    unfold trim
    split
    · rename_i h
      rw [h] at ih
      split
      · rename_i hx
        cases i with
        | zero => simp [cf, hx]
        | succ i => have := ih i; simp [cf] at this ⊢; exact this
      · cases i with
        | zero => simp [cf]
        | succ i => have := ih i; simp [cf] at this ⊢; exact this
    · cases i with
      | zero => simp [cf]
      | succ i => have := ih i; simp [cf] at this ⊢; exact this
theorem trim_len : ∀ l, (trim l).length ≤ l.length
  | [] => Nat.le_refl _
  | x :: r => by
    have := trim_len r
    unfold trim
    split
    · split <;> simp
    · simp; exact this
theorem trim_norm : ∀ l, Norm (trim l)
  | [] => fun h => absurd rfl h
  | x :: r => by
    have ih := trim_norm r
    unfold trim
    split
    · split
      · exact fun h => absurd rfl h
      · rename_i hx; intro _; simpa [lead] using hx
    · rename_i h
      intro _
      have := ih h
      cases hr : trim r with
      | nil => exact absurd hr h
      | cons y s => rw [hr] at this; simpa [lead] using this
theorem cf_ge {l : List Int} {i : Nat} (h : l.length ≤ i) : cf l i = 0 := by
  simp [cf, h]
theorem norm_len {l : List Int} (hn : Norm l) {k : Nat} (h : ∀ i, k ≤ i → cf l i = 0) : l.length ≤ k := by
  apply Nat.le_of_not_lt
  intro hk
  have hne : l ≠ [] := by rintro rfl; simp at hk
  exact hn hne (h (l.length - 1) (by (exact zq394 hk)))
theorem norm_ext {l l' : List Int} (hn : Norm l) (hn' : Norm l') (h : ∀ i, cf l i = cf l' i) : l = l' := by
  have h1 : l.length ≤ l'.length := norm_len hn fun i hi => by rw [h]; exact cf_ge hi
  have h2 : l'.length ≤ l.length := norm_len hn' fun i hi => by rw [← h]; exact cf_ge hi
  apply List.ext_getElem (by (exact zq422 h1 h2))
  intro i hi hi'
  have := h i
  simpa [cf, hi, hi'] using this
theorem trim_id {l : List Int} (hn : Norm l) : trim l = l := norm_ext (trim_norm l) hn (trim_cf l)

noncomputable def zadd (a b : List Int) : List Int := trim ((List.range (max a.length b.length)).map fun i => a.getD i 0 + b.getD i 0)
noncomputable def zneg (p : List Int) : List Int := p.map (- ·)
noncomputable def zsub (a b : List Int) : List Int := zadd a (zneg b)
noncomputable def zscale (p : List Int) (k : Int) : List Int := if k = 0 then [] else p.map (· * k)
noncomputable def zraise (p : List Int) (n : Nat) : List Int := if p = [] then [] else List.replicate n 0 ++ p

theorem cf_range (f : Nat → Int) (n i : Nat) : cf ((List.range n).map f) i = if i < n then f i else 0 := by
  simp only [cf, List.getD_eq_getElem?_getD, List.getElem?_map]
  split
  · rename_i h; simp [h]
  · rename_i h; rw [List.getElem?_eq_none (by simp; (exact zq2 h))]; rfl
theorem cf_map (f : Int → Int) (h0 : f 0 = 0) (l : List Int) (i : Nat) : cf (l.map f) i = f (cf l i) := by
  simp only [cf, List.getD_eq_getElem?_getD, List.getElem?_map]
  cases l[i]? <;> simp [h0]
theorem zadd_cf (a b : List Int) (i : Nat) : cf (zadd a b) i = cf a i + cf b i := by
  unfold zadd
  rw [trim_cf, cf_range]
  split
  · rfl
  · rename_i h
    rw [cf_ge (l := a) (by (exact zq589 h)), cf_ge (l := b) (by (exact zq590 h))]; rfl
theorem zneg_cf (a : List Int) (i : Nat) : cf (zneg a) i = - cf a i := cf_map _ (by rfl) a i
theorem zsub_cf (a b : List Int) (i : Nat) : cf (zsub a b) i = cf a i - cf b i := by
  unfold zsub; rw [zadd_cf, zneg_cf]; (exact zq177)
theorem zscale_cf (p : List Int) (k : Int) (i : Nat) : cf (zscale p k) i = cf p i * k := by
  unfold zscale
  split
  · rename_i h; simp [cf, h]
  · exact cf_map (· * k) (by simp) p i
theorem zraise_cf (p : List Int) (n i : Nat) : cf (zraise p n) i = sh n (cf p) i := by
  unfold zraise sh
  split
  · rename_i h; simp [cf, h]
  · split
    · rename_i h
      simp only [cf, List.getD_eq_getElem?_getD]
      rw [List.getElem?_append_left (by simpa using h), List.getElem?_replicate, if_pos h]; rfl
    · rename_i h
      simp only [cf, List.getD_eq_getElem?_getD]
      rw [List.getElem?_append_right (by simp; (exact zq2 h))]; simp
theorem zsub_norm (a b : List Int) : Norm (zsub a b) := trim_norm _

noncomputable def pstep (b rest : List Int) : List Int := zsub (zscale rest (lead b)) (zraise (zscale b (lead rest)) (rest.length - b.length))
noncomputable def ploop (b : List Int) : Nat → List Int → List Int
  | 0, rest => rest
  | n + 1, rest => if b.length ≤ rest.length then ploop b n (pstep b rest) else zscale rest (lead b ^ (n + 1))
noncomputable def prest (a b : List Int) : List Int := ploop b (a.length + 1 - b.length) a

theorem cm_congr {B : Row} {q q' : Nat → Int} {i : Nat} (d : Nat) : ∀ K, (∀ s, s < K → q s = q' s) → cm B q i K d = cm B q' i K d
  | 0, _ => rfl
  | K + 1, h => by simp only [cm]; rw [cm_congr d K fun s hs => h s (by (exact zq15 hs)), h K (by (exact zq3))]
theorem cm_pad {B : Row} {q : Nat → Int} {k₁ : Nat} (d : Nat) : ∀ K, k₁ ≤ K → cm B (fun s => if s < k₁ then q s else 0) 0 K d = cm B q 0 k₁ d
  | 0, h => by have : k₁ = 0 := by (exact zq42 h)
               subst this; rfl
  | K + 1, h => by
    by_cases hk : k₁ ≤ K
    · have := cm_pad (q := q) (B := B) d K hk
      show cm B _ 0 K d + (if K < k₁ then q K else 0) * sh (0 + K) B d = _
      rw [this, if_neg (by (exact zq464 hk))]; simp
    · have : k₁ = K + 1 := by (exact zq425 h hk)
      subst this
      exact cm_congr d (K + 1) fun s hs => by rw [if_pos hs]
theorem cm_addp {B : Row} {q : Nat → Int} {p : Nat} {x : Int} (d : Nat) : ∀ K, p < K → cm B (fun s => q s + if s = p then x else 0) 0 K d = cm B q 0 K d + x * sh p B d
  | 0, h => by (exact zq186 h)
  | K + 1, h => by
    show cm B _ 0 K d + (q K + if K = p then x else 0) * sh (0 + K) B d = (cm B q 0 K d + q K * sh (0 + K) B d) + _
    rw [Nat.zero_add]
    by_cases hk : K = p
    · subst hk
      rw [cm_congr (q' := q) d K fun s hs => by rw [if_neg (by (exact zq53 hs))]; simp, if_pos rfl]; grind
    · rw [cm_addp d K (by (exact zq401 h hk)), if_neg hk]; grind

theorem cf_lead (l : List Int) : cf l (l.length - 1) = lead l := rfl
theorem pstep_cf (b rest : List Int) (i : Nat) : cf (pstep b rest) i = lead b * cf rest i - lead rest * sh (rest.length - b.length) (cf b) i := by
  unfold pstep
  rw [zsub_cf, zscale_cf, zraise_cf]
  unfold sh
  split
  · simp; grind
  · rw [zscale_cf]; grind
theorem pstep_len {b rest : List Int} (hb : b ≠ []) (hl : b.length ≤ rest.length) : (pstep b rest).length < rest.length := by
  have hb' : 0 < b.length := List.length_pos_iff.mpr hb
  have : (pstep b rest).length ≤ rest.length - 1 := norm_len (zsub_norm _ _) fun i hi => by
    show cf (pstep b rest) i = 0
    rw [pstep_cf]
    unfold sh
    rw [if_neg (by (exact zq583 hl hb' hi))]
    by_cases q : i = rest.length - 1
    · subst q
      rw [show rest.length - 1 - (rest.length - b.length) = b.length - 1 by (exact zq465 hl hb'), cf_lead, cf_lead]; grind
    · rw [cf_ge (l := rest) (by (exact zq390 hi q)), cf_ge (l := b) (by (exact zq539 hl hi q))]; simp
  (exact zq582 hl hb' this)
theorem ploop_ok {b : List Int} (hb : b ≠ []) (hbn : Norm b) : ∀ (n : Nat) (rest : List Int), Norm rest → rest.length + 1 ≤ b.length + n →
    Norm (ploop b n rest) ∧ (ploop b n rest).length < b.length ∧ ∃ q : Nat → Int, ∀ d, lead b ^ n * cf rest d = cm (cf b) q 0 (rest.length + 1 - b.length) d + cf (ploop b n rest) d
  | 0, rest, hn, hl => ⟨hn, by show rest.length < _; (exact zq387 hl), fun _ => 0, fun d => by
      rw [show rest.length + 1 - b.length = 0 by (exact zq386 hl)]
      simp [ploop, cm]⟩
  | n + 1, rest, hn, hl => by
    unfold ploop
    by_cases q : b.length ≤ rest.length
    · rw [if_pos q]
      have hs := pstep_len hb q
      obtain ⟨h1, h2, qq, h3⟩ := ploop_ok hb hbn n (pstep b rest) (zsub_norm _ _) (by (exact zq155 hl hs))
      refine ⟨h1, h2, fun s => (fun s => if s < (pstep b rest).length + 1 - b.length then qq s else 0) s + if s = rest.length - b.length then lead b ^ n * lead rest else 0, fun d => ?_⟩
      have h4 := h3 d
      rw [pstep_cf] at h4
      rw [cm_addp d _ (by (exact zq135 q)), cm_pad d _ (by (exact zq144 q hs)), Int.pow_succ]
      grind
    · rw [if_neg q]
      have hne : lead b ^ (n + 1) ≠ 0 := Int.pow_ne_zero (hbn hb)
      refine ⟨?_, ?_, fun _ => 0, fun d => ?_⟩
      · intro h
        unfold zscale at h ⊢
        rw [if_neg hne] at h ⊢
        have hr : rest ≠ [] := by rintro rfl; exact h rfl
        have := hn hr
        rw [← cf_lead, cf_map (· * lead b ^ (n + 1)) (by simp), List.length_map, cf_lead]
        exact Int.mul_ne_zero this hne
      · unfold zscale; rw [if_neg hne, List.length_map]; (exact zq30 q)
      · rw [show rest.length + 1 - b.length = 0 by (exact zq138 q), zscale_cf]
        simp [cm]; grind

theorem prest_ok {a b : List Int} (hb : b ≠ []) (hbn : Norm b) (ha : Norm a) (hl : b.length ≤ a.length) :
    Norm (prest a b) ∧ (prest a b).length < b.length ∧ ∃ q : Nat → Int, ∀ d, lead b ^ (a.length + 1 - b.length) * cf a d = cm (cf b) q 0 (a.length + 1 - b.length) d + cf (prest a b) d :=
  ploop_ok hb hbn _ a ha (by (exact zq463 hl))

/-- the resultant's rounds -/
noncomputable def fin (a b : List Int) (h s : Int) : Int := if b = [] then 0 else s * (if 0 < a.length - 1 then (b.getD 0 0 ^ (a.length - 1)).fdiv (h ^ (a.length - 1 - 1)) else 1)
noncomputable def odd2 (a b : List Int) : Bool := (a.length - 1) % 2 == 1 && (b.length - 1) % 2 == 1
noncomputable def rloop : Nat → List Int → List Int → Int → Int → Int → Int
  | 0, a, b, g, h, s => fin a b h s
  | n + 1, a, b, g, h, s => if b.length ≤ 1 then fin a b h s else
      let gap := a.length - b.length
      let h' := if 0 < gap then (lead b ^ gap).fdiv (h ^ (gap - 1)) else h
      rloop n b ((prest a b).map fun x => x.fdiv (g * h ^ gap)) (lead b) h' (if odd2 a b then - s else s)

noncomputable def Res (a b : List Int) : Int := sub 0 0 (a.length - 1) (b.length - 1) (cf a) (cf b)

structure Inv (R : Nat → Nat → Int) (s₀ : Int) (A B : List Int) (g h s : Int) : Prop where
  nA : Norm A
  nB : Norm B
  e1 : 2 ≤ A.length
  le : B.length ≤ A.length
  g0 : g ≠ 0
  h0 : h ≠ 0
  ss : s * s = 1
  z : B = [] → R 0 0 = 0
  all : B ≠ [] → ∀ j k, k ≤ j → j ≤ B.length - 1 → j < A.length - 1 → ∃ u : Int, u * u = 1 ∧ sub j k (A.length - 1) (B.length - 1) (cf A) (cf B) = u * (g ^ (B.length - 1 - j) * h ^ (A.length - 1 - j - 1) * R j k)
  sgn : B ≠ [] → s * sub 0 0 (A.length - 1) (B.length - 1) (cf A) (cf B) = s₀ * (g ^ (B.length - 1) * h ^ (A.length - 1 - 1) * R 0 0)

theorem cf_top {l : List Int} : ∀ d, l.length - 1 < d → cf l d = 0 := fun d h => cf_ge (by (exact zq389 h))

theorem sub_const (e d : Nat) (A B : Row) (hB : ∀ i, d < i → B i = 0) (h : d < e) : sub d d e d A B = B d ^ (e - d) := by
  unfold sub
  rw [Nat.sub_self]
  have := cols_tri (j := d) (k := d) hB [] 1 (e - d) (e + d - d - d - 1) (by (exact zq434 h)) (fun r hr => nomatch hr) (by (exact zq438 h)) (by (exact zq211))
  rw [List.append_nil, List.append_nil] at this
  show det _ ([] ++ rows B (e - d)) = _
  rw [List.nil_append, this, show e + d - d - d - 1 - (e - d - 1) = 0 by (exact zq439 h)]
  show B d ^ (e - d - 1) * det [d] [sh 0 B] = _
  have e1 : det [d] [sh 0 B] = B d := by simp [det, lap, sh]
  rw [e1, ← Int.pow_succ, show (e - d - 1).succ = e - d by (exact zq437 h)]

theorem sub_last (d k : Nat) (B C : Row) (hd : 1 ≤ d) : sub (d - 1) k d (d - 1) B C = C k := by
  unfold sub
  rw [show d + (d - 1) - (d - 1) - (d - 1) - 1 = 0 by (exact zq252 hd), Nat.sub_self, show d - (d - 1) = 1 by (exact zq253 hd)]
  simp [det, lap, sh, cols, rows]

theorem sub_zero (j k m n : Nat) (A : Row) (h : j < m) : sub j k m n A (fun _ => 0) = 0 := by
  unfold sub
  obtain ⟨t, ht⟩ : ∃ t, m - j = t + 1 := ⟨m - j - 1, by (exact zq441 h)⟩
  rw [ht]
  have := det_ML (cols j k (m + n - j - j - 1)) (rows A (n - j)) (rows (fun _ => 0) t) (fun _ => 0) (fun _ => 0) 0 0
  have e : lc 0 (fun _ => 0) 0 (fun _ => 0) = sh t (fun _ => 0) := by funext i; simp [lc, sh]
  rw [e] at this
  show det _ (rows A (n - j) ++ (sh t (fun _ => 0) :: rows (fun _ => 0) t)) = 0
  rw [this]; simp

theorem unit_cases {u : Int} (h : u * u = 1) : u = 1 ∨ u = -1 := by
  have : (u - 1) * (u + 1) = 0 := by grind
  rcases Int.mul_eq_zero.mp this with q | q <;> (first | exact zq170 q | exact zq169 q | omega)
theorem m1_unit (n : Nat) : ((-1 : Int) ^ n) * ((-1 : Int) ^ n) = 1 := by
  rw [← Int.mul_pow]; exact Int.one_pow
theorem m1_odd : ∀ n : Nat, ((-1 : Int) ^ n) = if n % 2 = 1 then -1 else 1
  | 0 => rfl
  | n + 1 => by
    rw [Int.pow_succ, m1_odd n]
    split <;> split <;> (first | exact zq290 (by assumption) (by assumption) | exact zq158 | exact zq161 | exact zq328 (by assumption) (by assumption) | omega)
theorem fdiv_exact {x y z : Int} (hy : y ≠ 0) (h : x = y * z) : x.fdiv y = z := by
  subst h; exact Int.mul_fdiv_cancel_left _ hy

theorem key {b h h' : Int} {δ a' p w : Nat} (hp : p + w = δ + a' + 1) (h1 : 0 < δ → h' * h ^ (δ - 1) = b ^ δ) (h2 : δ = 0 → h' = h) : b ^ p * h' ^ a' * ((h ^ δ) ^ (a' + 1) * b ^ w) = (b ^ (δ + 1)) ^ (a' + 1) * h ^ (δ + a') := by
  have hb : b ^ p * b ^ w = b ^ δ * b ^ a' * b := by rw [← Int.pow_add, hp, Int.pow_succ, Int.pow_add]
  match δ, h1, h2 with
  | 0, h1, h2 =>
    rw [h2 rfl]
    simp only [Int.pow_zero, Int.pow_succ, Int.zero_add, Nat.zero_add, Int.one_mul] at hb ⊢
    rw [Int.one_pow]
    grind
  | t + 1, h1, h2 =>
    have h3 : (h' * h ^ t) ^ a' = (b ^ (t + 1)) ^ a' := by rw [← h1 (by (exact zq72))]; rfl
    rw [Int.mul_pow] at h3
    have q1 : (h ^ (t + 1)) ^ (a' + 1) = (h ^ t) ^ a' * h ^ a' * h ^ (t + 1) := by rw [Int.pow_succ (h ^ (t + 1)), Int.pow_succ h t, Int.mul_pow]
    have q2 : (b ^ (t + 1 + 1)) ^ (a' + 1) = (b ^ (t + 1)) ^ a' * b ^ a' * (b ^ (t + 1) * b) := by rw [Int.pow_succ (b ^ (t + 1 + 1)), Int.pow_succ b (t + 1), Int.mul_pow]
    have q3 : h ^ (t + 1 + a') = h ^ (t + 1) * h ^ a' := Int.pow_add _ _ _
    rw [q1, q2, q3]
    generalize b ^ (t + 1) = B1 at *
    generalize (h ^ t) ^ a' = X1 at *
    generalize B1 ^ a' = X2 at *
    generalize h' ^ a' = X3 at *
    generalize b ^ a' = X4 at *
    generalize h ^ a' = X5 at *
    generalize h ^ (t + 1) = X6 at *
    grind

theorem aux2 {X Y s s₀ r g : Int} (h : s * X = s₀ * (g ^ 0 * Y * r)) (ss : s * s = 1) : X = Y * (s * (s₀ * r)) := by
  simp only [Int.pow_zero, Int.one_mul] at h
  have : s * s * X = s * (s₀ * (Y * r)) := by rw [← h]; grind
  rw [ss] at this; grind
theorem aux1 {B m X c : Int} (h2 : B * X = m * (B * c)) (h3 : m * m = 1) : B * (m * X - c) = 0 := by grind

theorem st1 {m u : Int} (h3 : m * m = 1) (hu : u * u = 1) : m * u * (m * u) = 1 := by grind
theorem st2 {m u g H R X : Int} (h : m * (u * (g ^ 1 * H * R)) = X) : X = m * u * (g * H * R) := by grind
theorem st3 {β u R x : Int} (h : x = u * (β * R)) : x = β * (u * R) := by grind
theorem st4 {B X m c : Int} (h2 : B ^ 1 * X = m * (1 ^ 1 * (B * c))) (h3 : m * m = 1) (h6 : B ≠ 0) : m * X = c := by
  have p1' : ∀ x : Int, x ^ 1 = x := fun x => by rw [Int.pow_succ, Int.pow_zero, Int.one_mul]
  rw [p1', p1', Int.one_mul] at h2
  have h5 : B * (m * X - c) = 0 := aux1 h2 h3
  have := (Int.mul_eq_zero.mp h5).resolve_left h6
  (exact zq184 this)
theorem st5 {b1 u H R g : Int} (h : b1 = u * (g ^ 0 * H * R)) : b1 = H * (u * R) := by grind
theorem st6 {s m : Int} (h : s * s = 1) (h' : m * m = 1) : s * m * (s * m) = 1 := by grind
theorem st7 {u g H R : Int} (hu : u * u = 1) (hg : g ≠ 0) (hH : H ≠ 0) (h : 0 = u * (g * H * R)) : R = 0 := by
  have h6 : u * (g * H) * R = 0 := by rw [h]; grind
  have hu0 : u ≠ 0 := by rintro rfl; simp at hu
  exact (Int.mul_eq_zero.mp h6).resolve_left (Int.mul_ne_zero hu0 (Int.mul_ne_zero hg hH))
theorem st8 {u m G U R Y1 Y2 V S Z : Int} (h2 : V * (u * (G * U * R)) = m * (G * Y1 * (Y2 * S))) (k1 : Z * (Y1 * Y2) = V * U) (h3 : m * m = 1) : G * (Y1 * Y2) * S = G * (Y1 * Y2) * (m * u * (Z * R)) := by
  have h4 : G * (Y1 * Y2) * S = m * m * (G * Y1 * (Y2 * S)) := by rw [h3]; grind
  have h5 : m * m * (G * Y1 * (Y2 * S)) = m * (V * (u * (G * U * R))) := by rw [h2]; grind
  rw [h4, h5, show V * (u * (G * U * R)) = u * (G * (V * U) * R) by grind, ← k1]; grind
theorem st9 {s s₀ m G U R Y1 Y2 V S S0 Z : Int} (h2 : V * S0 = m * (G * Y1 * (Y2 * S))) (k1 : Z * (Y1 * Y2) = V * U) (sgn : s * S0 = s₀ * (G * U * R)) : G * (Y1 * Y2) * (s * m * S) = G * (Y1 * Y2) * (s₀ * (Z * R)) := by
  have h4 : G * (Y1 * Y2) * (s * m * S) = s * (m * (G * Y1 * (Y2 * S))) := by grind
  rw [h4, ← h2, show s * (V * S0) = V * (s * S0) by grind, sgn, show V * (s₀ * (G * U * R)) = s₀ * (G * (V * U) * R) by grind, ← k1]; grind

theorem na1 (d t : Nat) : d + 1 + t + 1 - (d + 1 + 1) = t := by rw [Nat.add_right_comm (d + 1) t 1, Nat.add_sub_cancel_left]
theorem na2 (d t : Nat) : d + 1 + t + 1 + 1 - (d + 1 + 1) = t + 1 := by rw [Nat.add_right_comm (d + 1) t 1, Nat.add_assoc, Nat.add_sub_cancel_left]
theorem na3 (d t : Nat) : d + 1 + t - d = t + 1 := by rw [Nat.add_assoc, Nat.add_sub_cancel_left, Nat.add_comm]
theorem na4 (j y z : Nat) : j + y + z + 1 - j = y + z + 1 := by rw [Nat.add_assoc, Nat.add_assoc, Nat.add_sub_cancel_left, Nat.add_assoc]
theorem na5 (j y z t : Nat) : j + y + z + 1 + t - j = t + (y + z) + 1 := by (exact zq594)
theorem na6 (j y z t : Nat) : j + y + z + 1 + t - (j + y) = z + 1 + t := by rw [Nat.add_assoc, Nat.add_assoc, Nat.add_sub_cancel_left, Nat.add_assoc]
theorem na7 (y z t : Nat) : y + (z + 1 + t) = t + (y + z) + 1 := by (exact zq490)
theorem na8 (d t : Nat) : d ≤ d + 1 + t := by (exact zq349)
theorem na9 (d t : Nat) : d < d + 1 + t := by (exact zq347)
theorem na10 (j y z t : Nat) : j + y ≤ j + y + z + 1 + t := by (exact zq595)
theorem na11 (j y z : Nat) : j + j < j + y + (j + y + z + 1) := by (exact zq491)
theorem ex_add {a b : Nat} (h : a ≤ b) : ∃ t, b = a + t := ⟨b - a, (Nat.add_sub_cancel' h).symm⟩
theorem key2 {b h h' : Int} {t y z : Nat} (hh1 : 0 < t → h' * h ^ (t - 1) = b ^ t) (hh2 : t = 0 → h' = h) : b ^ y * h' ^ (y + z) * ((h ^ t) ^ (y + z + 1) * b ^ (z + 1 + t)) = (b ^ (t + 1)) ^ (y + z + 1) * h ^ (t + (y + z)) :=
  key (na7 y z t) hh1 hh2
theorem all_core {b h h' g u m S r : Int} {t y z : Nat} (h2 : (b ^ (t + 1)) ^ (y + z + 1) * (u * (g ^ (y + z + 1) * h ^ (t + (y + z)) * r)) = m * ((g * h ^ t) ^ (y + z + 1) * (b ^ (z + 1 + t) * S))) (h3 : m * m = 1)
    (hb : b ≠ 0) (hg : g ≠ 0) (hh : h ≠ 0) (hh1 : 0 < t → h' * h ^ (t - 1) = b ^ t) (hh2 : t = 0 → h' = h) : S = m * u * (b ^ y * h' ^ (y + z) * r) := by
  rw [Int.mul_pow] at h2
  have hnz : g ^ (y + z + 1) * ((h ^ t) ^ (y + z + 1) * b ^ (z + 1 + t)) ≠ 0 := Int.mul_ne_zero (Int.pow_ne_zero hg) (Int.mul_ne_zero (Int.pow_ne_zero (Int.pow_ne_zero hh)) (Int.pow_ne_zero hb))
  exact (Int.mul_eq_mul_left_iff hnz).mp (st8 h2 (key2 hh1 hh2) h3)
theorem sgn_core {b h h' g s s₀ m S S0 r : Int} {t y z : Nat} (h2 : (b ^ (t + 1)) ^ (y + z + 1) * S0 = m * ((g * h ^ t) ^ (y + z + 1) * (b ^ (z + 1 + t) * S))) (sgn : s * S0 = s₀ * (g ^ (y + z + 1) * h ^ (t + (y + z)) * r))
    (hb : b ≠ 0) (hg : g ≠ 0) (hh : h ≠ 0) (hh1 : 0 < t → h' * h ^ (t - 1) = b ^ t) (hh2 : t = 0 → h' = h) : s * m * S = s₀ * (b ^ y * h' ^ (y + z) * r) := by
  rw [Int.mul_pow] at h2
  have hnz : g ^ (y + z + 1) * ((h ^ t) ^ (y + z + 1) * b ^ (z + 1 + t)) ≠ 0 := Int.mul_ne_zero (Int.pow_ne_zero hg) (Int.mul_ne_zero (Int.pow_ne_zero (Int.pow_ne_zero hh)) (Int.pow_ne_zero hb))
  exact (Int.mul_eq_mul_left_iff hnz).mp (st9 h2 (key2 hh1 hh2) sgn)
theorem odd2_sign' {A B : List Int} {d e : Nat} (he : A.length = e + 1) (hd : B.length = d + 1) (s : Int) : (if odd2 A B then -s else s) = s * (-1) ^ (d * e) := by
  have hm := m1_odd (d * e)
  have ho : odd2 A B = decide ((d * e) % 2 = 1) := by
    unfold odd2
    rw [he, hd, Nat.add_sub_cancel, Nat.add_sub_cancel, Nat.mul_mod]
    rcases Nat.mod_two_eq_zero_or_one d with q | q <;> rcases Nat.mod_two_eq_zero_or_one e with q' | q' <;> rw [q, q'] <;> rfl
  rw [ho, hm]
  by_cases hq : (d * e) % 2 = 1
  · simp [hq]
  · simp [hq]
theorem new_h {b h u r x : Int} {t : Nat} (hb : b ≠ 0) (hh : h ≠ 0) (e : 0 < t → ∃ u r : Int, b ^ t = h ^ (t - 1) * (u * r)) :
    ∃ h', (if 0 < t then (b ^ t).fdiv (h ^ (t - 1)) else h) = h' ∧ h' ≠ 0 ∧ (0 < t → h' * h ^ (t - 1) = b ^ t) ∧ (t = 0 → h' = h) := by
  by_cases hgap : 0 < t
  · rw [if_pos hgap]
    obtain ⟨u, r, h2⟩ := e hgap
    refine ⟨u * r, fdiv_exact (Int.pow_ne_zero hh) h2, fun hz => ?_, fun _ => by rw [h2, Int.mul_comm], fun hz => absurd hz (Nat.ne_of_gt hgap)⟩
    rw [hz, Int.mul_zero] at h2; exact Int.pow_ne_zero hb h2
  · rw [if_neg hgap]; exact ⟨h, rfl, hh, fun q => absurd q hgap, fun _ => rfl⟩

theorem Inv.rem {R : Nat → Nat → Int} {s₀ : Int} {A B : List Int} {g h s : Int} {d t : Nat} (I : Inv R s₀ A B g h s) (hd : B.length = d + 1 + 1) (he : A.length = d + 1 + t + 1) :
    (prest A B).length ≤ d + 1 ∧ ∀ k, k ≤ d → ∃ u : Int, u * u = 1 ∧ cf (prest A B) k = u * (g * h ^ t * R d k) := by
  have hBne : B ≠ [] := by rintro rfl; cases hd
  obtain ⟨p1, p2, q, p3⟩ := prest_ok hBne I.nB I.nA I.le
  have all := I.all hBne
  have hbd : cf B (d + 1) = lead B := by rw [← cf_lead, hd]; rfl
  rw [he, hd, na2] at p3
  rw [he, hd] at all
  rw [hd] at p2
  have hC : (prest A B).length ≤ d + 1 := Nat.le_of_lt_succ p2
  refine ⟨hC, fun k hk => ?_⟩
  obtain ⟨u, hu, h1⟩ := all d k hk (Nat.le_succ d) (na9 d t)
  rw [Nat.add_sub_cancel, Nat.add_sub_cancel] at h1
  have h2 := sub_step (j := d) (k := k) (m := d + 1 + t) (n := d + 1) (l := d) (β := 1) (A := cf A) (B := cf B) (C := cf (prest A B)) (c := lead B ^ (t + 1)) (q := q) (K := t + 1) (fun i => by rw [p3 i, Int.one_mul]) (fun i hi => cf_ge (by rw [hd]; exact hi)) (fun i hi => cf_ge (l := prest A B) (Nat.le_trans hC hi)) (.inl (Nat.le_refl _)) (na8 d t) (Nat.le_refl _) (Nat.le_succ d) (Nat.lt_succ_self _)
  have h5 : sub d k (d + 1) d (cf B) (cf (prest A B)) = cf (prest A B) k := sub_last (d + 1) k (cf B) (cf (prest A B)) (Nat.succ_pos _)
  rw [h5, h1, hbd, na3, Nat.add_sub_cancel_left] at h2
  have h3 := m1_unit (1 * (t + 1))
  exact ⟨_, st1 h3 hu, st2 (st4 h2 h3 (Int.pow_ne_zero (I.nB hBne)))⟩
theorem Inv.bt {R : Nat → Nat → Int} {s₀ : Int} {A B : List Int} {g h s : Int} {d t : Nat} (I : Inv R s₀ A B g h s) (hd : B.length = d + 1 + 1) (he : A.length = d + 1 + t + 1) (hgap : 0 < t) :
    ∃ u : Int, u * u = 1 ∧ lead B ^ t = h ^ (t - 1) * (u * R (d + 1) (d + 1)) := by
  have hBne : B ≠ [] := by rintro rfl; cases hd
  have all := I.all hBne
  have hbd : cf B (d + 1) = lead B := by rw [← cf_lead, hd]; rfl
  rw [he, hd] at all
  obtain ⟨u, hu, h1⟩ := all (d + 1) (d + 1) (Nat.le_refl _) (Nat.le_refl _) (Nat.lt_add_of_pos_right hgap)
  rw [Nat.add_sub_cancel, Nat.add_sub_cancel, sub_const (d + 1 + t) (d + 1) _ _ (fun i hi => cf_ge (by rw [hd]; exact hi)) (Nat.lt_add_of_pos_right hgap), hbd, Nat.sub_self, Nat.add_sub_cancel_left] at h1
  exact ⟨u, hu, st5 h1⟩
theorem Inv.shape {R : Nat → Nat → Int} {s₀ : Int} {A B : List Int} {g h s : Int} (I : Inv R s₀ A B g h s) (hB : 1 < B.length) : ∃ d t, B.length = d + 1 + 1 ∧ A.length = d + 1 + t + 1 := by
  obtain ⟨d, hd⟩ := ex_add hB
  rw [Nat.add_comm] at hd
  obtain ⟨t, he⟩ := ex_add I.le
  exact ⟨d, t, hd, by rw [he, hd]; exact Nat.add_right_comm (d + 1) 1 t⟩
theorem Inv.dv {R : Nat → Nat → Int} {s₀ : Int} {A B : List Int} {g h s : Int} {d t : Nat} (I : Inv R s₀ A B g h s) (hd : B.length = d + 1 + 1) (he : A.length = d + 1 + t + 1) (k : Nat) : g * h ^ t * (cf (prest A B) k).fdiv (g * h ^ t) = cf (prest A B) k := by
  have hβ : g * h ^ t ≠ 0 := Int.mul_ne_zero I.g0 (Int.pow_ne_zero I.h0)
  obtain ⟨hC, rem⟩ := I.rem hd he
  by_cases hk : k ≤ d
  · obtain ⟨u, hu, h1⟩ := rem k hk
    rw [fdiv_exact (z := u * R d k) hβ (st3 h1)]; exact (st3 h1).symm
  · rw [cf_ge (l := prest A B) (Nat.le_trans hC (Nat.lt_of_not_le hk))]; simp

theorem Inv.step {R : Nat → Nat → Int} {s₀ : Int} {A B : List Int} {g h s : Int} (I : Inv R s₀ A B g h s) (hB : 1 < B.length) :
    Inv R s₀ B ((prest A B).map fun x => x.fdiv (g * h ^ (A.length - B.length))) (lead B) (if 0 < A.length - B.length then (lead B ^ (A.length - B.length)).fdiv (h ^ (A.length - B.length - 1)) else h) (if odd2 A B then - s else s) := by
  have hBne : B ≠ [] := by rintro rfl; simp at hB
  obtain ⟨p1, p2, q, p3⟩ := prest_ok hBne I.nB I.nA I.le
  obtain ⟨d, t, hd, he⟩ := I.shape hB
  have bt := fun hgap => I.bt (t := t) hd he hgap
  have dv := I.dv hd he
  generalize prest A B = C0 at p1 p2 p3 dv ⊢
  have all := I.all hBne
  have sgn := I.sgn hBne
  have b0 := I.nB hBne
  have hbd : cf B (d + 1) = lead B := by rw [← cf_lead, hd]; rfl
  generalize lead B = b at hbd b0 p3 bt ⊢
  rw [odd2_sign' (e := d + 1 + t) (d := d + 1) he hd]
  rw [he, hd] at all sgn p3 ⊢
  rw [hd] at p2
  rw [na1]
  rw [na2] at p3
  simp only [Nat.add_sub_cancel] at all sgn
  have hC : C0.length ≤ d + 1 := Nat.le_of_lt_succ p2
  have topB : ∀ i, d + 1 < i → cf B i = 0 := fun i hi => cf_ge (by rw [hd]; exact hi)
  have cfC : ∀ k, cf (C0.map fun x => x.fdiv (g * h ^ t)) k = (cf C0 k).fdiv (g * h ^ t) := fun k => cf_map _ (by simp) C0 k
  have lenC : (C0.map fun x => x.fdiv (g * h ^ t)).length = C0.length := List.length_map ..
  have nC : Norm (C0.map fun x => x.fdiv (g * h ^ t)) := fun hne => by
    have hne' : C0 ≠ [] := by rintro rfl; exact hne rfl
    have := p1 hne'
    rw [← cf_lead, cfC, lenC]
    intro hz
    have h1 := dv (C0.length - 1)
    rw [hz, cf_lead, Int.mul_zero] at h1
    exact this h1.symm
  -- the new h
  obtain ⟨h', eh, h'0, hh1, hh2⟩ := new_h (u := 0) (r := 0) (x := 0) (t := t) b0 I.h0 fun hgap => (bt hgap).imp fun u hu => ⟨_, hu.2⟩
  rw [eh]
  -- the step for the divided remainder
  have stepC : ∀ j k l, C0.length ≤ l + 1 → j ≤ l → l ≤ d → (b ^ (t + 1)) ^ (d + 1 - j) * sub j k (d + 1 + t) (d + 1) (cf A) (cf B) =
      (-1) ^ ((d + 1 - j) * (d + 1 + t - j)) * ((g * h ^ t) ^ (d + 1 - j) * (b ^ (d + 1 + t - l) * sub j k (d + 1) l (cf B) (cf (C0.map fun x => x.fdiv (g * h ^ t))))) := fun j k l hl hj hld => by
    have h2 := sub_step (j := j) (k := k) (m := d + 1 + t) (n := d + 1) (l := l) (β := g * h ^ t) (A := cf A) (B := cf B) (C := cf (C0.map fun x => x.fdiv (g * h ^ t))) (c := b ^ (t + 1)) (q := q) (K := t + 1) (fun i => by rw [p3 i, cfC, dv]) topB
      (fun i hi => cf_ge (l := C0.map fun x => x.fdiv (g * h ^ t)) (by rw [lenC]; exact Nat.le_trans hl hi)) (.inl (Nat.le_refl _)) (Nat.le_trans hld (na8 d t)) hj (Nat.le_trans hj (Nat.le_succ_of_le hld)) (Nat.lt_of_le_of_lt (Nat.add_le_add hj (Nat.le_trans hj hld)) (Nat.lt_succ_self _))
    rwa [hbd] at h2
  refine { nA := I.nB, nB := nC, e1 := by rw [hd]; exact Nat.le_add_left 2 d, le := by rw [lenC, hd]; exact Nat.le_succ_of_le hC, g0 := b0, h0 := h'0, ss := st6 I.ss (m1_unit _), z := fun hz => ?_, all := fun hne j k hkj hj hje => ?_, sgn := fun hne => ?_ }
  · have hz' : C0 = [] := List.map_eq_nil_iff.mp hz
    subst hz'
    have h2 := stepC 0 0 d (Nat.zero_le _) (Nat.zero_le _) (Nat.le_refl _)
    have h6 : sub 0 0 (d + 1) d (cf B) (cf ([].map fun x : Int => x.fdiv (g * h ^ t))) = 0 := sub_zero 0 0 (d + 1) d _ (Nat.succ_pos _)
    rw [h6, Int.mul_zero, Int.mul_zero, Int.mul_zero] at h2
    have h3 := (Int.mul_eq_zero.mp h2).resolve_left (Int.pow_ne_zero (Int.pow_ne_zero b0))
    obtain ⟨u, hu, h5⟩ := all 0 0 (Nat.le_refl _) (Nat.zero_le _) (Nat.lt_of_lt_of_le (Nat.succ_pos d) (Nat.le_add_right _ _))
    rw [h3] at h5
    exact st7 hu (Int.pow_ne_zero I.g0) (Int.pow_ne_zero I.h0) h5
  all_goals
    have hne' : C0 ≠ [] := by rintro rfl; exact hne rfl
    obtain ⟨l, hl⟩ := ex_add (List.length_pos_iff.mpr hne')
    rw [Nat.add_comm] at hl
    have hl : C0.length = l + 1 := hl
    have hld : l ≤ d := by rw [hl] at hC; exact Nat.le_of_succ_le_succ hC
    rw [lenC, hl, hd]
    simp only [Nat.add_sub_cancel]
  · rw [lenC, hl, Nat.add_sub_cancel] at hj
    rw [hd, Nat.add_sub_cancel] at hje
    obtain ⟨u, hu, h1⟩ := all j k hkj (Nat.le_of_lt hje) (Nat.lt_of_lt_of_le hje (Nat.le_add_right _ _))
    have h2 := stepC j k l (Nat.le_of_eq hl) hj hld
    obtain ⟨y, rfl⟩ := ex_add hj
    obtain ⟨z, rfl⟩ := ex_add hld
    rw [h1, na4, na5, na6, Nat.add_sub_cancel] at h2
    have h3 := m1_unit ((y + z + 1) * (t + (y + z) + 1))
    rw [Nat.add_sub_cancel_left, na4, Nat.add_sub_cancel]
    exact ⟨_, st1 h3 hu, all_core h2 h3 b0 I.g0 I.h0 hh1 hh2⟩
  · have h2 := stepC 0 0 l (Nat.le_of_eq hl) (Nat.zero_le _) hld
    obtain ⟨z, rfl⟩ := ex_add hld
    have e1 : l + z + 1 + t = t + (l + z) + 1 := by rw [Nat.add_comm t, Nat.add_right_comm]
    have e2 := na6 0 l z t
    rw [Nat.zero_add] at e2
    rw [Nat.sub_zero, Nat.sub_zero, e2] at h2
    rw [show l + z + 1 + t - 1 = t + (l + z) from congrArg Nat.pred e1] at sgn
    exact sgn_core h2 sgn b0 I.g0 I.h0 hh1 hh2

theorem Inv.fin {R : Nat → Nat → Int} {s₀ : Int} {A B : List Int} {g h s : Int} (I : Inv R s₀ A B g h s) (hB : B.length ≤ 1) : fin A B h s = s₀ * R 0 0 := by
  unfold Law.fin
  split
  · rename_i hz; rw [I.z hz]; simp
  · rename_i hne
    have sgn := I.sgn hne
    have e1 := I.e1
    have b0 := I.nB hne
    have hl : B.length = 1 := by have := List.length_pos_iff.mpr hne; (exact zq299 hB this)
    have hhp : ∀ n : Nat, h ^ n ≠ 0 := fun n => Int.pow_ne_zero I.h0
    rw [if_pos (by (exact zq13 e1))]
    rw [hl] at sgn
    have := sub_const (A.length - 1) 0 (cf A) (cf B) (fun i hi => cf_ge (by (exact zq403 hl hi))) (by (exact zq13 e1))
    rw [show 1 - 1 = 0 from rfl, this, Nat.sub_zero] at sgn
    have e0 : cf B 0 = B.getD 0 0 := rfl
    rw [e0] at sgn
    have ss := I.ss
    generalize B.getD 0 0 ^ (A.length - 1) = X at sgn ⊢
    have hx := hhp (A.length - 1 - 1)
    generalize h ^ (A.length - 1 - 1) = Y at sgn hx ⊢
    rw [fdiv_exact (z := s * (s₀ * R 0 0)) hx (aux2 sgn ss)]
    generalize R 0 0 = r
    have : s * (s * (s₀ * r)) = s * s * (s₀ * r) := by grind
    rw [this, ss]; simp
theorem rloop_ok {R : Nat → Nat → Int} {s₀ : Int} : ∀ (n : Nat) {A B : List Int} {g h s : Int}, Inv R s₀ A B g h s → B.length ≤ n + 1 → rloop n A B g h s = s₀ * R 0 0
  | 0, A, B, g, h, s, I, hl => I.fin hl
  | n + 1, A, B, g, h, s, I, hl => by
    unfold rloop
    split
    · rename_i h1; exact I.fin h1
    · rename_i h1
      have J := I.step (by (exact zq331 h1))
      refine rloop_ok n J ?_
      have hBne : B ≠ [] := by rintro rfl; simp at h1
      have := (prest_ok hBne I.nB I.nA I.le).2.1
      rw [List.length_map]; (exact zq587 hl this)

theorem rloop_res {a b : List Int} (ha : Norm a) (hb : Norm b) (hbne : b ≠ []) (hl : b.length ≤ a.length) (h2 : 2 ≤ a.length) (s : Int) (hs : s * s = 1) : rloop b.length a b 1 1 s = s * Res a b :=
  rloop_ok (R := fun j k => sub j k (a.length - 1) (b.length - 1) (cf a) (cf b)) _ ⟨ha, hb, h2, hl, (by decide), (by decide), hs, fun h => absurd h hbne,
    fun _ j k _ _ _ => ⟨1, rfl, by simp [Int.one_pow]⟩, fun _ => by simp [Int.one_pow]⟩ (by (exact zq35))
end Mine.Law
namespace Mine.Law

theorem rows_scale (c : Int) (A : Row) : ∀ k, rows (fun i => c * A i) k = (rows A k).map fun r i => c * r i
  | 0 => rfl
  | k + 1 => by
    simp only [rows, List.map_cons]
    rw [rows_scale c A k]
    congr 1
    funext i; simp only [sh]; split <;> simp
theorem sub_scaleA (j k m n : Nat) (c : Int) (A B : Row) : sub j k m n (fun i => c * A i) B = c ^ (n - j) * sub j k m n A B := by
  unfold sub
  rw [rows_scale]
  have := f_scale (det_ML (cols j k (m + n - j - j - 1))) (rows A (n - j)) [] (rows B (m - j)) c
  simpa [rows_len] using this
theorem sub_scaleB (j k m n : Nat) (c : Int) (A B : Row) : sub j k m n A (fun i => c * B i) = c ^ (m - j) * sub j k m n A B := by
  unfold sub
  rw [rows_scale]
  have := f_scale (det_ML (cols j k (m + n - j - j - 1))) (rows B (m - j)) (rows A (n - j)) [] c
  simpa [rows_len] using this
theorem sub_comm (m n : Nat) (A B : Row) : sub 0 0 n m B A = (-1) ^ (m * n) * sub 0 0 m n A B := by
  unfold sub
  have := f_block (det_ML (cols 0 0 (m + n - 0 - 0 - 1))) (det_Alt _) (rows A (n - 0)) [] (rows B (m - 0)) []
  simp only [List.nil_append, List.append_nil, rows_len, Nat.sub_zero] at this ⊢
  rw [Nat.add_comm n m, this]
theorem Res_comm (a b : List Int) : Res b a = (-1) ^ ((a.length - 1) * (b.length - 1)) * Res a b := sub_comm _ _ _ _

/-- greatest common divisors -/
noncomputable def gcdAll (l : List Int) : Int := l.foldl (fun g x => (Int.gcd g x : Int)) 0
theorem foldl_dvd : ∀ (l : List Int) (g : Int), (∀ x ∈ l, l.foldl (fun g x => (Int.gcd g x : Int)) g ∣ x) ∧ l.foldl (fun g x => (Int.gcd g x : Int)) g ∣ g
  | [], g => ⟨fun x h => (nomatch h), Int.dvd_refl g⟩
  | y :: l, g => by
    obtain ⟨h1, h2⟩ := foldl_dvd l (Int.gcd g y)
    refine ⟨fun x hx => ?_, Int.dvd_trans h2 (Int.gcd_dvd_left ..)⟩
    rcases List.mem_cons.mp hx with rfl | hx
    · exact Int.dvd_trans h2 (Int.gcd_dvd_right ..)
    · exact h1 x hx
theorem gcdAll_dvd (l : List Int) (x : Int) (h : x ∈ l) : gcdAll l ∣ x := (foldl_dvd l 0).1 x h
theorem gcdAll_ne {l : List Int} (hne : l ≠ []) (hn : Norm l) : gcdAll l ≠ 0 := fun h => by
  have hl : 0 < l.length := List.length_pos_iff.mpr hne
  have hm : lead l ∈ l := by
    unfold lead
    rw [List.getD_eq_getElem?_getD, List.getElem?_eq_getElem (by (exact zq7 hl))]
    exact List.getElem_mem _
  have := gcdAll_dvd l _ hm
  rw [h] at this
  exact hn hne (Int.zero_dvd.mp this)
noncomputable def divided (l : List Int) (c : Int) : List Int := l.map fun x => x.fdiv c
theorem cf_mem {l : List Int} {i : Nat} (h : i < l.length) : cf l i ∈ l := by
  simp only [cf, List.getD_eq_getElem?_getD, List.getElem?_eq_getElem h]; exact List.getElem_mem _
theorem divided_cf {l : List Int} {c : Int} (hc : c ≠ 0) (hd : ∀ x ∈ l, c ∣ x) (i : Nat) : c * cf (divided l c) i = cf l i := by
  unfold divided
  rw [cf_map _ (by simp)]
  by_cases h : i < l.length
  · obtain ⟨y, hy⟩ := hd _ (cf_mem h)
    rw [hy, Int.mul_fdiv_cancel_left _ hc]
  · rw [cf_ge (by (exact zq2 h))]; simp
theorem divided_len (l : List Int) (c : Int) : (divided l c).length = l.length := List.length_map ..
theorem divided_norm {l : List Int} {c : Int} (hc : c ≠ 0) (hd : ∀ x ∈ l, c ∣ x) (hn : Norm l) : Norm (divided l c) := fun hne => by
  have hne' : l ≠ [] := by rintro rfl; exact hne rfl
  intro hz
  have h1 := divided_cf hc hd (l.length - 1)
  rw [← cf_lead, divided_len] at hz
  rw [hz, cf_lead] at h1
  exact hn hne' (by rw [← h1]; simp)

noncomputable def resultant (a b : List Int) : Int :=
  if a = [] ∨ b = [] then 0 else
    let p := if a.length < b.length then (b, a, if odd2 b a then (-1 : Int) else 1) else (a, b, 1)
    let one := gcdAll p.1
    let other := gcdAll p.2.1
    one ^ (p.2.1.length - 1) * other ^ (p.1.length - 1) * rloop p.2.1.length (divided p.1 one) (divided p.2.1 other) 1 1 p.2.2

theorem res_core {a b : List Int} (ha : Norm a) (hb : Norm b) (hane : a ≠ []) (hbne : b ≠ []) (hl : b.length ≤ a.length) (h2 : 2 ≤ a.length) (s : Int) (hs : s * s = 1) :
    gcdAll a ^ (b.length - 1) * gcdAll b ^ (a.length - 1) * rloop b.length (divided a (gcdAll a)) (divided b (gcdAll b)) 1 1 s = s * Res a b := by
  have ga := gcdAll_ne hane ha
  have gb := gcdAll_ne hbne hb
  have h := rloop_res (divided_norm ga (gcdAll_dvd a) ha) (divided_norm gb (gcdAll_dvd b) hb) (by intro h; exact hbne (List.map_eq_nil_iff.mp h)) (by rw [divided_len, divided_len]; exact hl) (by rw [divided_len]; exact h2) s hs
  rw [divided_len] at h
  rw [h]
  have ea : cf a = fun i => gcdAll a * cf (divided a (gcdAll a)) i := funext fun i => (divided_cf ga (gcdAll_dvd a) i).symm
  have eb : cf b = fun i => gcdAll b * cf (divided b (gcdAll b)) i := funext fun i => (divided_cf gb (gcdAll_dvd b) i).symm
  unfold Res
  rw [divided_len, divided_len]
  generalize cf (divided a (gcdAll a)) = A at ea ⊢
  generalize cf (divided b (gcdAll b)) = B at eb ⊢
  rw [ea, eb, sub_scaleA, sub_scaleB, Nat.sub_zero, Nat.sub_zero]
  grind

theorem odd2_sign (a b : List Int) : (if odd2 b a then (-1 : Int) else 1) = (-1) ^ ((a.length - 1) * (b.length - 1)) := by
  rw [m1_odd]
  unfold odd2
  rw [Nat.mul_mod]
  rcases Nat.mod_two_eq_zero_or_one (a.length - 1) with q | q <;> rcases Nat.mod_two_eq_zero_or_one (b.length - 1) with q' | q' <;> rw [q, q'] <;> rfl

/-- the program's resultant is the determinant -/
theorem resultant_eq {a b : List Int} (ha : Norm a) (hb : Norm b) (hane : a ≠ []) (hbne : b ≠ []) (h3 : 3 ≤ a.length + b.length) : resultant a b = Res a b := by
  unfold resultant
  rw [if_neg (by intro h; exact h.elim hane hbne)]
  by_cases q : a.length < b.length
  · simp only [if_pos q]
    rw [res_core hb ha hbne hane (by (exact zq28 q)) (by (exact zq373 h3 q)) _ (by split <;> rfl), odd2_sign, Res_comm a b]
    have := m1_unit ((a.length - 1) * (b.length - 1))
    generalize (-1 : Int) ^ ((a.length - 1) * (b.length - 1)) = m at *
    grind
  · simp only [if_neg q]
    have hla : 0 < a.length := List.length_pos_iff.mpr hane
    have hlb : 0 < b.length := List.length_pos_iff.mpr hbne
    rw [res_core ha hb hane hbne (by (exact zq2 q)) (by (exact zq371 h3 q hla hlb)) 1 rfl]; simp
theorem resultant_comm {a b : List Int} (ha : Norm a) (hb : Norm b) (hane : a ≠ []) (hbne : b ≠ []) (h3 : 3 ≤ a.length + b.length) :
    resultant b a = if (a.length - 1) * (b.length - 1) % 2 = 1 then - resultant a b else resultant a b := by
  rw [resultant_eq ha hb hane hbne h3, resultant_eq hb ha hbne hane (by (exact zq372 h3)), Res_comm, m1_odd]
  split <;> simp

/-- a constant -/
theorem Res_const {a : List Int} (c : Int) (h : 2 ≤ a.length) : Res a [c] = c ^ (a.length - 1) := by
  unfold Res
  have := sub_const (a.length - 1) 0 (cf a) (cf [c]) (fun i hi => cf_ge (by simp; (exact zq237 hi))) (by (exact zq13 h))
  rw [Nat.sub_zero] at this
  exact this

/-- one step of Euclid -/
noncomputable def eloop (b : List Int) : Nat → List Int → List Int
  | 0, rest => rest
  | n + 1, rest => if b.length ≤ rest.length then eloop b n (pstep b rest) else rest
noncomputable def erest (a b : List Int) : List Int := eloop b a.length a
noncomputable def common : Nat → List Int → List Int → Bool
  | 0, a, _ => decide (1 < a.length)
  | n + 1, a, b => if b = [] then decide (1 < a.length) else common n b (erest a b)

theorem eloop_ok {b : List Int} (hb : b ≠ []) (hbn : Norm b) : ∀ (n : Nat) (rest : List Int), Norm rest → rest.length ≤ n →
    Norm (eloop b n rest) ∧ (eloop b n rest).length < b.length ∧ (eloop b n rest).length ≤ rest.length ∧ ∃ (k : Nat) (q : Nat → Int), ∀ d, lead b ^ k * cf rest d = cm (cf b) q 0 (rest.length + 1 - b.length) d + cf (eloop b n rest) d
  | 0, rest, hn, hl => ⟨hn, by have := List.length_pos_iff.mpr hb; show rest.length < _; (exact zq406 hl this), Nat.le_refl _, 0, fun _ => 0, fun d => by
      have := List.length_pos_iff.mpr hb
      rw [show rest.length + 1 - b.length = 0 by (exact zq405 hl this)]
      simp [eloop, cm]⟩
  | n + 1, rest, hn, hl => by
    unfold eloop
    by_cases q : b.length ≤ rest.length
    · rw [if_pos q]
      have hs := pstep_len hb q
      obtain ⟨h1, h2, h2', k, qq, h3⟩ := eloop_ok hb hbn n (pstep b rest) (zsub_norm _ _) (by (exact zq60 hl hs))
      refine ⟨h1, h2, by (exact zq584 q h2), k + 1, fun s => (fun s => if s < (pstep b rest).length + 1 - b.length then qq s else 0) s + if s = rest.length - b.length then lead b ^ k * lead rest else 0, fun d => ?_⟩
      have h4 := h3 d
      rw [pstep_cf] at h4
      rw [cm_addp d _ (by (exact zq135 q)), cm_pad d _ (by (exact zq144 q hs)), Int.pow_succ]
      grind
    · rw [if_neg q]
      refine ⟨hn, by (exact zq30 q), Nat.le_refl _, 0, fun _ => 0, fun d => ?_⟩
      rw [show rest.length + 1 - b.length = 0 by (exact zq138 q)]
      simp [cm]

/-- one reduction of the determinant -/
theorem res_red {a b r : List Int} {k : Nat} {q : Nat → Int} (hb : b ≠ []) (hbn : Norm b) (h : ∀ d, lead b ^ k * cf a d = cm (cf b) q 0 (a.length + 1 - b.length) d + cf r d) (hr : r ≠ []) (hl : r.length ≤ a.length) (h3 : 3 ≤ b.length + r.length) :
    (lead b ^ k) ^ (b.length - 1) * Res a b = (-1) ^ ((b.length - 1) * (a.length - 1)) * (lead b ^ (a.length - r.length) * Res b r) := by
  have hrl := List.length_pos_iff.mpr hr
  have hbl := List.length_pos_iff.mpr hb
  have := sub_step (j := 0) (k := 0) (m := a.length - 1) (n := b.length - 1) (l := r.length - 1) (c := lead b ^ k) (β := 1) (q := q) (K := a.length + 1 - b.length) (A := cf a) (B := cf b) (C := cf r) (fun d => by rw [h d]; simp) (fun i hi => cf_ge (by (exact zq23 hbl hi))) (fun i hi => cf_ge (by (exact zq23 hrl hi)))
    (by (exact zq146 hl hrl hbl)) (by (exact zq127 hl hrl)) (by (exact zq6)) (by (exact zq6)) (by (exact zq115 h3 hrl hbl))
  simp only [Nat.sub_zero, cf_lead, Int.one_pow, Int.one_mul] at this
  rw [show a.length - r.length = a.length - 1 - (r.length - 1) by (exact zq136 hl hrl)]
  exact this
theorem res_red0 {a b : List Int} {k : Nat} {q : Nat → Int} (hb : 2 ≤ b.length) (ha : a ≠ []) (hbn : Norm b) (h : ∀ d, lead b ^ k * cf a d = cm (cf b) q 0 (a.length + 1 - b.length) d) : Res a b = 0 := by
  have hal := List.length_pos_iff.mpr ha
  have hbne : b ≠ [] := by rintro rfl; simp at hb
  have := sub_step (j := 0) (k := 0) (m := a.length - 1) (n := b.length - 1) (l := 0) (c := lead b ^ k) (β := 1) (q := q) (K := a.length + 1 - b.length) (A := cf a) (B := cf b) (C := fun _ => 0) (fun d => by rw [h d]; simp) (fun i hi => cf_ge (by (exact zq111 hb hi))) (fun i hi => rfl)
    (by (exact zq110 hb hal)) (by (exact zq6)) (by (exact zq62)) (by (exact zq6)) (by (exact zq76 hb))
  rw [sub_zero 0 0 (b.length - 1) 0 _ (by (exact zq13 hb))] at this
  simp only [Nat.sub_zero, Int.mul_zero] at this
  exact (Int.mul_eq_zero.mp this).resolve_left (Int.pow_ne_zero (Int.pow_ne_zero (hbn hbne)))

theorem common_ok : ∀ (n : Nat) {a b : List Int}, Norm a → Norm b → a ≠ [] → b.length ≤ n → (b ≠ [] → 3 ≤ a.length + b.length) → (common n a b = true ↔ if b = [] then 1 < a.length else Res a b = 0)
  | 0, a, b, ha, hb, hane, hl, h3 => by
    have : b = [] := List.length_eq_zero_iff.mp (by (exact zq42 hl))
    subst this; simp [common]
  | n + 1, a, b, ha, hb, hane, hl, h3 => by
    unfold common
    by_cases q : b = []
    · rw [if_pos q, if_pos q]; simp
    · rw [if_neg q, if_neg q]
      have h3 := h3 q
      obtain ⟨h1, h2, h2', k, qq, h4⟩ := eloop_ok q hb a.length a ha (Nat.le_refl _)
      have hbl := List.length_pos_iff.mpr q
      have hal := List.length_pos_iff.mpr hane
      have hk : lead b ^ k ≠ 0 := Int.pow_ne_zero (hb q)
      show common n b (eloop b a.length a) = true ↔ _
      generalize eloop b a.length a = r at *
      by_cases hr : r = []
      · rw [common_ok n hb h1 q (by (exact zq60 hl h2)) (fun hh => absurd hr hh), if_pos hr]
        subst hr
        by_cases hb1 : 2 ≤ b.length
        · have := res_red0 (k := k) (q := qq) hb1 hane hb fun d => by rw [h4 d]; simp [cf]
          rw [this]; simp; (exact zq78 hb1)
        · have hb1 : b.length = 1 := by (exact zq243 hbl hb1)
          obtain ⟨c, rfl⟩ := List.length_eq_one_iff.mp hb1
          rw [Res_const c (by simp at h3; (exact zq259 h3))]
          have : c ≠ 0 := by have := hb q; simpa [lead] using this
          simp [Int.pow_ne_zero this]
      · have hrl := List.length_pos_iff.mpr hr
        by_cases hbr : 3 ≤ b.length + r.length
        · rw [common_ok n hb h1 q (by (exact zq60 hl h2)) (fun _ => hbr), if_neg hr]
          have := res_red q hb h4 hr h2' hbr
          have e1 : (lead b ^ k) ^ (b.length - 1) ≠ 0 := Int.pow_ne_zero hk
          have e2 : (-1 : Int) ^ ((b.length - 1) * (a.length - 1)) ≠ 0 := Int.pow_ne_zero (by decide)
          have e3 : lead b ^ (a.length - r.length) ≠ 0 := Int.pow_ne_zero (hb q)
          constructor
          · intro hz; rw [hz] at this; simp only [Int.mul_zero] at this; exact (Int.mul_eq_zero.mp this).resolve_left e1
          · intro hz; rw [hz] at this; simp only [Int.mul_zero] at this
            exact (Int.mul_eq_zero.mp ((Int.mul_eq_zero.mp this.symm).resolve_left e2)).resolve_left e3
        · (exact (zq395 h2 hrl hbr).elim)
end Mine.Law
namespace Mine.Law

noncomputable def lin (u v : Int) (A : Row) : Row := fun i => u * A i + v * sh 1 A i
noncomputable def lmul1 (u v : Int) (f : List Int) : List Int := (List.range (f.length + 1)).map (lin u v (cf f))
theorem lmul1_len (u v : Int) (f : List Int) : (lmul1 u v f).length = f.length + 1 := by simp [lmul1]
theorem lmul1_cf (u v : Int) (f : List Int) : cf (lmul1 u v f) = lin u v (cf f) := by
  funext i
  unfold lmul1
  rw [cf_range]
  split
  · rfl
  · unfold lin sh
    rw [cf_ge (l := f) (by (exact zq483 (by assumption))), if_neg (by (exact zq479 (by assumption))), cf_ge (l := f) (by (exact zq484 (by assumption)))]; simp
theorem lmul1_lead {u v : Int} {f : List Int} (hf : f ≠ []) : lead (lmul1 u v f) = v * lead f := by
  have := List.length_pos_iff.mpr hf
  rw [← cf_lead, lmul1_cf, lmul1_len]
  unfold lin sh
  rw [cf_ge (l := f) (by (exact zq240 this)), if_neg (by (exact zq242 this)), show f.length + 1 - 1 - 1 = f.length - 1 by (exact zq239 this), cf_lead]; simp
theorem lmul1_norm {u v : Int} (hv : v ≠ 0) {f : List Int} (hf : f ≠ []) (hn : Norm f) : Norm (lmul1 u v f) := fun _ => by
  rw [lmul1_lead hf]; exact Int.mul_ne_zero hv (hn hf)

theorem cm_lin (u v : Int) (B : Row) (q : Nat → Int) (d : Nat) : ∀ K, lin u v (cm B q 0 K) d = cm B (fun s => u * (if s < K then q s else 0) + v * if s = 0 then 0 else q (s - 1)) 0 (K + 1) d
  | 0 => by simp [lin, cm, sh]
  | K + 1 => by
    have ih := cm_lin u v B q d K
    have e1 : lin u v (cm B q 0 (K + 1)) d = lin u v (cm B q 0 K) d + (u * (q K * sh K B d) + v * (q K * sh (K + 1) B d)) := by
      simp only [lin, sh, cm, Nat.zero_add]
      by_cases h1 : d < 1
      · have : d = 0 := by (exact zq291 h1)
        subst this
        simp
        grind
      · rw [if_neg h1, if_neg h1]
        by_cases h2 : d < K + 1
        · rw [if_pos (show d - 1 < K by (exact zq470 h1 h2)), if_pos h2]; grind
        · rw [if_neg (show ¬ d - 1 < K by (exact zq471 h1 h2)), if_neg h2, show d - 1 - K = d - (K + 1) by (exact zq478 h2)]; grind
    rw [e1, ih]
    show cm B _ 0 (K + 1) d + _ = cm B _ 0 (K + 1) d + (u * (if K + 1 < K + 1 then q (K + 1) else 0) + v * if K + 1 = 0 then 0 else q (K + 1 - 1)) * sh (0 + (K + 1)) B d
    rw [if_neg (by (exact zq231)), if_neg (by (exact zq232)), Nat.zero_add, Nat.add_sub_cancel]
    show (cm B _ 0 K d + _ * sh (0 + K) B d) + _ = (cm B _ 0 K d + _ * sh (0 + K) B d) + _
    rw [cm_congr (q := fun s => u * (if s < K then q s else 0) + v * if s = 0 then 0 else q (s - 1)) (q' := fun s => u * (if s < K + 1 then q s else 0) + v * if s = 0 then 0 else q (s - 1)) d K fun s hs => by
      show u * (if s < K then q s else 0) + _ = u * (if s < K + 1 then q s else 0) + _
      have h9 : s < K + 1 := by (exact zq15 hs)
      rw [if_pos hs, if_pos h9]]
    simp only [Nat.lt_irrefl, if_false, if_pos (Nat.lt_succ_self K), Nat.zero_add]
    grind

/-- shifts of a sum of shifts -/
theorem sh_sh (i j : Nat) (B : Row) (d : Nat) : sh i (sh j B) d = sh (i + j) B d := by
  unfold sh
  by_cases h : d < i
  · rw [if_pos h, if_pos (by (exact zq141 h))]
  · rw [if_neg h]
    by_cases h2 : d - i < j
    · rw [if_pos h2, if_pos (by (exact zq147 h h2))]
    · rw [if_neg h2, if_neg (by (exact zq148 h h2)), Nat.sub_sub]
theorem cm_one (B : Row) (q : Nat → Int) (t : Nat) (x : Int) (K : Nat) (d : Nat) : ∃ q' : Nat → Int, (∀ s, s < t ∨ t + K ≤ s → q' s = 0) ∧ ∀ M, t + K ≤ M → ∀ d, cm B q' 0 M d = x * cm B q t K d := by
  refine ⟨fun s => if t ≤ s ∧ s < t + K then x * q (s - t) else 0, fun s hs => (by show (if _ then _ else _) = (0 : Int); rw [if_neg (by (exact zq552 hs))]), fun M hM d => ?_⟩
  have low : ∀ M, M ≤ t → cm B (fun s => if t ≤ s ∧ s < t + K then x * q (s - t) else 0) 0 M d = 0 := by
    intro M
    induction M with
    | zero => intro _; rfl
    | succ M ih => intro h; simp only [cm]; rw [ih (by (exact zq26 h)), if_neg (by (exact zq540 h))]; simp
  have mid : ∀ k, k ≤ K → cm B (fun s => if t ≤ s ∧ s < t + K then x * q (s - t) else 0) 0 (t + k) d = x * cm B q t k d := by
    intro k
    induction k with
    | zero => intro _; rw [Nat.add_zero, low t (Nat.le_refl _)]; simp [cm]
    | succ k ih =>
      intro h
      show cm B _ 0 (t + k) d + (if t ≤ t + k ∧ t + k < t + K then x * q (t + k - t) else 0) * sh (0 + (t + k)) B d = _
      rw [ih (by (exact zq26 h)), if_pos (by (exact zq541 h)), Nat.add_sub_cancel_left, Nat.zero_add]
      show _ = x * (cm B q t k d + q k * sh (t + k) B d)
      grind
  have hi : ∀ j, cm B (fun s => if t ≤ s ∧ s < t + K then x * q (s - t) else 0) 0 (t + K + j) d = x * cm B q t K d := by
    intro j
    induction j with
    | zero => exact mid K (Nat.le_refl _)
    | succ j ih =>
      show cm B _ 0 (t + K + j) d + (if t ≤ t + K + j ∧ t + K + j < t + K then x * q (t + K + j - t) else 0) * sh (0 + (t + K + j)) B d = _
      rw [ih, if_neg (by (exact zq494))]; simp
  have := hi (M - (t + K))
  rw [show t + K + (M - (t + K)) = M by (exact zq525 hM)] at this
  exact this
theorem cm_add (B : Row) (q q' : Nat → Int) (d : Nat) : ∀ K, cm B (fun s => q s + q' s) 0 K d = cm B q 0 K d + cm B q' 0 K d
  | 0 => by simp [cm]
  | K + 1 => by simp only [cm]; rw [cm_add B q q' d K]; grind
theorem cm_cm (B : Row) (f : Nat → Int) (L : Nat) (q : Nat → Int) : ∀ K M, K + L ≤ M + 1 → ∃ q' : Nat → Int, ∀ d, cm (cm B f 0 L) q 0 K d = cm B q' 0 M d
  | 0, M, h => ⟨fun _ => 0, fun d => by
      have : ∀ M, cm B (fun _ => 0) 0 M d = 0 := by
        intro M
        induction M with
        | zero => rfl
        | succ M ih => simp only [cm]; rw [ih]; simp
      rw [this]; rfl⟩
  | K + 1, M, h => by
    obtain ⟨q1, h1⟩ := cm_cm B f L q K M (by (exact zq515 h))
    obtain ⟨q2, _, h2⟩ := cm_one B f K (q K) L 0
    refine ⟨fun s => q1 s + q2 s, fun d => ?_⟩
    rw [cm_add, ← h1 d, h2 M (by (exact zq514 h))]
    simp only [cm, Nat.zero_add]
    rw [sh_cm]

theorem lin_cm (u v : Int) (f : List Int) (d : Nat) : lin u v (cf f) d = cm (cf [u, v]) (cf f) 0 f.length d := by
  have gen : ∀ (q : Nat → Int) (K : Nat), cm (cf [u, v]) q 0 K d = (if d < K then u * q d else 0) + if 1 ≤ d ∧ d ≤ K then v * q (d - 1) else 0 := by
    intro q K
    induction K with
    | zero => simp [cm]; (exact zq335)
    | succ K ih =>
      show cm (cf [u, v]) q 0 K d + q K * sh (0 + K) (cf [u, v]) d = _
      rw [ih, Nat.zero_add]
      unfold sh
      by_cases h1 : d < K
      · rw [if_pos h1, if_pos h1, if_pos (show d < K + 1 by (exact zq15 h1))]
        by_cases h2 : 1 ≤ d
        · rw [if_pos (by (exact zq396 h1 h2)), if_pos (by (exact zq397 h1 h2))]; simp
        · rw [if_neg (by (exact zq469 h2)), if_neg (by (exact zq468 h2))]; simp
      · rw [if_neg h1, if_neg h1]
        by_cases h2 : d = K
        · subst h2
          rw [if_pos (show d < d + 1 by (exact zq3)), Nat.sub_self]
          by_cases h3 : 1 ≤ d
          · rw [if_pos (by (exact zq250 h3)), if_pos (by (exact zq251 h3))]; simp [cf]; grind
          · rw [if_neg (by (exact zq326 h3)), if_neg (by (exact zq325 h3))]; simp [cf]; grind
        · rw [if_neg (show ¬ d < K + 1 by (exact zq475 h1 h2)), if_neg (by (exact zq474 h1 h2))]
          by_cases h3 : d = K + 1
          · subst h3
            rw [if_pos (by (exact zq212)), show K + 1 - K = 1 by (exact zq216), Nat.add_sub_cancel]; simp [cf]; grind
          · rw [if_neg (by (exact zq477 h1 h2 h3)), cf_ge (l := [u, v]) (by simp; (exact zq476 h1 h2 h3))]; simp
  rw [gen]
  unfold lin sh
  by_cases h1 : d < f.length
  · rw [if_pos h1]
    by_cases h2 : d < 1
    · rw [if_pos h2, if_neg (by (exact zq119 h2))]; simp
    · rw [if_neg h2, if_pos (by (exact zq399 h1 h2))]
  · rw [if_neg h1, cf_ge (l := f) (by (exact zq2 h1))]
    by_cases h2 : d < 1
    · rw [if_pos h2, if_neg (by (exact zq119 h2))]; simp
    · rw [if_neg h2]
      by_cases h3 : d ≤ f.length
      · rw [if_pos (by (exact zq473 h1 h2 h3))]; simp
      · rw [if_neg (by (exact zq480 h3)), cf_ge (l := f) (by (exact zq482 h2 h3))]; simp

theorem res_redc {a b r : List Int} {c : Int} {q : Nat → Int} (hb : b ≠ []) (h : ∀ d, c * cf a d = cm (cf b) q 0 (a.length + 1 - b.length) d + cf r d) (hr : r ≠ []) (hl : r.length ≤ a.length) (h3 : 3 ≤ b.length + r.length) :
    c ^ (b.length - 1) * Res a b = (-1) ^ ((b.length - 1) * (a.length - 1)) * (lead b ^ (a.length - r.length) * Res b r) := by
  have hrl := List.length_pos_iff.mpr hr
  have hbl := List.length_pos_iff.mpr hb
  have := sub_step (j := 0) (k := 0) (m := a.length - 1) (n := b.length - 1) (l := r.length - 1) (c := c) (β := 1) (q := q) (K := a.length + 1 - b.length) (A := cf a) (B := cf b) (C := cf r) (fun d => by rw [h d]; simp) (fun i hi => cf_ge (by (exact zq23 hbl hi))) (fun i hi => cf_ge (by (exact zq23 hrl hi)))
    (by (exact zq146 hl hrl hbl)) (by (exact zq127 hl hrl)) (by (exact zq6)) (by (exact zq6)) (by (exact zq115 h3 hrl hbl))
  simp only [Nat.sub_zero, cf_lead, Int.one_pow, Int.one_mul] at this
  rw [show a.length - r.length = a.length - 1 - (r.length - 1) by (exact zq136 hl hrl)]
  exact this
theorem res_redc0 {a b : List Int} {c : Int} {q : Nat → Int} (hb : 2 ≤ b.length) (ha : a ≠ []) (hc : c ≠ 0) (h : ∀ d, c * cf a d = cm (cf b) q 0 (a.length + 1 - b.length) d) : Res a b = 0 := by
  have hal := List.length_pos_iff.mpr ha
  have := sub_step (j := 0) (k := 0) (m := a.length - 1) (n := b.length - 1) (l := 0) (c := c) (β := 1) (q := q) (K := a.length + 1 - b.length) (A := cf a) (B := cf b) (C := fun _ => 0) (fun d => by rw [h d]; simp) (fun i hi => cf_ge (by (exact zq111 hb hi))) (fun i hi => rfl)
    (by (exact zq110 hb hal)) (by (exact zq6)) (by (exact zq62)) (by (exact zq6)) (by (exact zq76 hb))
  rw [sub_zero 0 0 (b.length - 1) 0 _ (by (exact zq13 hb))] at this
  simp only [Nat.sub_zero, Int.mul_zero] at this
  exact (Int.mul_eq_zero.mp this).resolve_left (Int.pow_ne_zero hc)

theorem lin_lead (u v : Int) : lead [u, v] = v := rfl
theorem m1_sq (a b : Nat) : ((-1 : Int) ^ (a * b)) * ((-1 : Int) ^ (a * b)) = 1 := m1_unit _

theorem alg1 {Gn S1 S2 T Rgr Rglr Rlrg Rrg Rlg Rlf Rf s1 s2 s3 s4 : Int} (hg : Gn ≠ 0) (h1 : Gn * Rf = s1 * (T * Rgr)) (h2 : Gn * Rlf = s2 * (T * Rglr)) (h3 : Rgr = s3 * Rrg) (h4 : Rglr = s4 * Rlrg) (h5 : Rlrg = Rlg * Rrg) (h6 : s2 * s4 = s1 * s3) : Rlf = Rlg * Rf := by
  refine (Int.mul_eq_mul_left_iff hg).mp ?_
  rw [h2, h4, h5, show Gn * (Rlg * Rf) = Rlg * (Gn * Rf) by grind, h1, h3]
  grind

theorem mulLin {u v : Int} (hv : v ≠ 0) : ∀ (N : Nat) {f g : List Int}, f.length + g.length ≤ N → Norm f → Norm g → f ≠ [] → g ≠ [] → 3 ≤ f.length + g.length →
    Res (lmul1 u v f) g = Res [u, v] g * Res f g
  | 0, f, g, hN, _, _, hf, _, _ => by have := List.length_pos_iff.mpr hf; (exact zq187 hN (by assumption))
  | N + 1, f, g, hN, nf, ng, hf, hg, h3 => by
    have hfl := List.length_pos_iff.mpr hf
    have hgl := List.length_pos_iff.mpr hg
    have nF := lmul1_norm (u := u) hv hf nf
    have Fne : lmul1 u v f ≠ [] := by intro q; have := congrArg List.length q; rw [lmul1_len] at this; simp at this
    have FL := lmul1_len u v f
    by_cases hg1 : g.length = 1
    · obtain ⟨c, rfl⟩ := List.length_eq_one_iff.mp hg1
      have hf2 : 2 ≤ f.length := by simp at h3; (exact zq447 FL h3)
      rw [Res_const c (by rw [FL]; (exact zq448 FL hf2)), Res_const c (by simp), Res_const c hf2, FL, show f.length + 1 - 1 = (f.length - 1) + 1 by (exact zq449 FL hf2), Int.pow_succ]
      simp; grind
    · by_cases hf1 : f.length = 1
      · obtain ⟨c, rfl⟩ := List.length_eq_one_iff.mp hf1
        have e1 : cf (lmul1 u v [c]) = fun i => c * cf [u, v] i := by
          rw [lmul1_cf]; funext i
          unfold lin sh
          match i with
          | 0 => simp [cf]; grind
          | 1 => simp [cf]; grind
          | i + 2 => simp [cf]
        have e2 : Res [c] g = c ^ (g.length - 1) := by
          have h1 := Res_comm g [c]
          have h2 := Res_const c (a := g) (by (exact zq496 hgl h3 FL hf1))
          rw [h1, h2]; simp
        have e3 : Res (lmul1 u v [c]) g = c ^ (g.length - 1) * Res [u, v] g := by
          unfold Res; rw [e1, sub_scaleA]; rfl
        rw [e3, e2]; grind
      · by_cases hle : g.length ≤ f.length
        · obtain ⟨h1, h2, h2', k, qq, h4⟩ := eloop_ok hg ng f.length f nf (Nat.le_refl _)
          generalize eloop g f.length f = r at *
          have hGk : lead g ^ k ≠ 0 := Int.pow_ne_zero (ng hg)
          have h5 : ∀ d, lead g ^ k * cf (lmul1 u v f) d = cm (cf g) (fun s => u * (if s < f.length + 1 - g.length then qq s else 0) + v * if s = 0 then 0 else qq (s - 1)) 0 ((lmul1 u v f).length + 1 - g.length) d + lin u v (cf r) d := fun d => by
            rw [FL, show f.length + 1 + 1 - g.length = f.length + 1 - g.length + 1 by (exact zq578 FL hle), ← cm_lin, lmul1_cf]
            have h6 := h4 d
            have h7 := h4 (d - 1)
            unfold lin sh
            by_cases hd : d < 1
            · rw [if_pos hd, if_pos hd, if_pos hd]; grind
            · rw [if_neg hd, if_neg hd, if_neg hd]; grind
          by_cases hr : r = []
          · subst hr
            have z1 := res_redc0 (b := g) (c := lead g ^ k) (q := qq) (by (exact zq151 h3 hgl FL hg1 hf1 hGk)) hf hGk fun d => by rw [h4 d]; simp [cf]
            have z2 := res_redc0 (b := g) (c := lead g ^ k) (by (exact zq151 h3 hgl FL hg1 hf1 hGk)) Fne hGk fun d => by
              have e0 : lin u v (cf []) d = 0 := by simp [lin, sh, cf]
              rw [h5 d, e0, Int.add_zero]
            rw [z1, z2]; simp
          · have hrl := List.length_pos_iff.mpr hr
            have R1 := res_redc hg h4 hr h2' (by (exact zq445 h2 hrl))
            have rne : lmul1 u v r ≠ [] := by intro q; have := congrArg List.length q; rw [lmul1_len] at this; simp at this
            have RL := lmul1_len u v r
            have R2 := res_redc (r := lmul1 u v r) hg (fun d => by rw [h5 d, lmul1_cf]) rne (by (exact zq609 FL h2' RL)) (by (exact zq573 h2 hrl RL))
            have ih := mulLin (u := u) hv N (f := r) (g := g) (by (exact zq675 hN FL hle h2 h2' RL)) h1 ng hr hg (by (exact zq529 h2 hrl RL))
            rw [FL, RL, show f.length + 1 - (r.length + 1) = f.length - r.length by (exact zq625 FL h2' RL)] at R2
            refine alg1 (S1 := 0) (S2 := 0) (Int.pow_ne_zero hGk) R1 R2 (Res_comm r g) (Res_comm (lmul1 u v r) g) ih ?_
            rw [RL, Nat.add_sub_cancel, Nat.add_sub_cancel]
            obtain ⟨m, hm⟩ : ∃ m, f.length = m + 1 := ⟨f.length - 1, by (exact zq51 hfl FL)⟩
            obtain ⟨n, hn⟩ : ∃ n, g.length = n + 1 := ⟨g.length - 1, by (exact zq37 hgl)⟩
            obtain ⟨w, hw⟩ : ∃ w, r.length = w + 1 := ⟨r.length - 1, by (exact zq51 hrl RL)⟩
            rw [hm, hn, hw, Nat.add_sub_cancel, Nat.add_sub_cancel, Nat.add_sub_cancel, Nat.mul_add, Nat.add_mul, Int.pow_add, Int.pow_add, Nat.mul_one, Nat.one_mul]
            have := m1_unit n
            grind
        · -- g is reduced by the product
          obtain ⟨h1, h2, h2', k, qq, h4⟩ := eloop_ok Fne nF g.length g ng (Nat.le_refl _)
          generalize eloop (lmul1 u v f) g.length g = r at *
          have hc : lead (lmul1 u v f) ^ k ≠ 0 := Int.pow_ne_zero (nF Fne)
          generalize hce : lead (lmul1 u v f) ^ k = c at h4 hc
          have hf4 : ∃ q1 : Nat → Int, ∀ d, c * cf g d = cm (cf f) q1 0 (g.length + 1 - f.length) d + cf r d := by
            have : ∀ K, ∃ q1 : Nat → Int, ∀ d, cm (cf (lmul1 u v f)) qq 0 K d = cm (cf f) q1 0 (K + 1) d := fun K => by
              have e : cf (lmul1 u v f) = cm (cf f) (fun s => if s = 0 then u else v) 0 2 := by
                rw [lmul1_cf]; funext d; simp [lin, cm, sh]
              rw [e]
              exact cm_cm (cf f) _ 2 qq K (K + 1) (by (exact zq222))
            obtain ⟨q1, hq1⟩ := this (g.length + 1 - (lmul1 u v f).length)
            exact ⟨q1, fun d => by rw [h4 d, hq1 d, FL, show g.length + 1 - (f.length + 1) + 1 = g.length + 1 - f.length by (exact zq579 FL hle)]⟩
          have hl4 : ∃ q2 : Nat → Int, ∀ d, c * cf g d = cm (cf [u, v]) q2 0 (g.length + 1 - 2) d + cf r d := by
            have e : cf (lmul1 u v f) = cm (cf [u, v]) (cf f) 0 f.length := by rw [lmul1_cf]; funext d; exact lin_cm u v f d
            obtain ⟨q2, hq2⟩ := cm_cm (cf [u, v]) (cf f) f.length qq (g.length + 1 - (lmul1 u v f).length) (g.length + 1 - 2) (by (exact zq497 hgl FL hle))
            exact ⟨q2, fun d => by rw [h4 d, e, hq2 d]⟩
          obtain ⟨q1, h5⟩ := hf4
          obtain ⟨q2, h6⟩ := hl4
          have lL : ([u, v] : List Int).length = 2 := rfl
          by_cases hr : r = []
          · subst hr
            have z1 := res_redc0 (b := lmul1 u v f) (c := c) (q := qq) (by (exact zq355 hfl FL)) hg hc fun d => by rw [h4 d]; simp [cf]
            have z2 := res_redc0 (b := [u, v]) (c := c) (q := q2) (by simp) hg hc fun d => by rw [h6 d]; simp [cf]
            rw [Res_comm g, Res_comm g [u, v], z1, z2]; simp
          · have hrl := List.length_pos_iff.mpr hr
            have R1 := res_redc Fne h4 hr h2' (by (exact zq500 hfl FL hrl))
            have R2 := res_redc hf h5 hr h2' (by (exact zq150 hfl FL hf1 hc hrl))
            have R3 := res_redc (b := [u, v]) (by simp) h6 hr h2' (by simp; (exact zq238 hrl))
            have ih := mulLin (u := u) hv N (f := f) (g := r) (by (exact zq637 hN FL hle h2 h2')) nf h1 hf hr (by (exact zq150 hfl FL hf1 hc hrl))
            rw [Res_comm g, Res_comm g [u, v], Res_comm g f]
            rw [ih, lmul1_lead hf, FL, Int.mul_pow] at R1
            rw [lin_lead, lL] at R3
            rw [FL, lL]
            obtain ⟨m, hm⟩ : ∃ m, f.length = m + 1 := ⟨f.length - 1, by (exact zq51 hfl FL)⟩
            obtain ⟨n, hn⟩ : ∃ n, g.length = n + 1 := ⟨g.length - 1, by (exact zq37 hgl)⟩
            rw [hm, hn] at R1 R2 ⊢
            rw [hn] at R3
            simp only [Nat.add_sub_cancel, show 2 - 1 = 1 from rfl, Nat.one_mul, Nat.mul_one, Nat.add_mul, Nat.mul_add, Int.pow_add] at R1 R2 R3 ⊢
            have m1 := m1_unit n
            have m2 := m1_unit (m * n)
            have e1 : n * m = m * n := Nat.mul_comm _ _
            rw [e1]
            generalize (-1 : Int) ^ n = s1 at *
            generalize (-1 : Int) ^ (m * n) = s2 at *
            have hcm : c ^ m ≠ 0 := Int.pow_ne_zero hc
            generalize v ^ (n + 1 - r.length) = X at R1 R2 R3
            generalize lead f ^ (n + 1 - r.length) = Y at R1 R2 R3
            have p1' : ∀ x : Int, x ^ 1 = x := fun x => by rw [Int.pow_succ, Int.pow_zero, Int.one_mul]
            simp only [p1'] at R1 R3
            generalize c ^ m = cm' at *
            have goal : cm' * c * Res g (lmul1 u v f) = cm' * c * (Res g [u, v] * Res g f) := by
              rw [R1]
              have : cm' * c * (Res g [u, v] * Res g f) = (c * Res g [u, v]) * (cm' * Res g f) := by grind
              rw [this, R2, R3]
              grind
            have := (Int.mul_eq_mul_left_iff (Int.mul_ne_zero hcm hc)).mp goal
            rw [this]; grind
end Mine.Law
namespace Mine.Law

/-! the derivative -/
noncomputable def derive (f : List Int) : List Int := (List.range (f.length - 1)).map fun i => f.getD (i + 1) 0 * ((i : Int) + 1)
theorem derive_len (f : List Int) : (derive f).length = f.length - 1 := by simp [derive]
theorem derive_cf (f : List Int) (i : Nat) : cf (derive f) i = cf f (i + 1) * ((i : Int) + 1) := by
  unfold derive
  rw [cf_range]
  split
  · rfl
  · rw [cf_ge (l := f) (by (exact zq485 (by assumption)))]; simp
theorem derive_norm {f : List Int} (hf : Norm f) : Norm (derive f) := fun hne => by
  have h2 : 2 ≤ f.length := by
    apply Nat.le_of_not_lt
    intro h
    apply hne
    have := derive_len f
    exact List.length_eq_zero_iff.mp (by (exact zq433 h this))
  have hfne : f ≠ [] := by rintro rfl; simp at h2
  rw [← cf_lead, derive_len, derive_cf, show f.length - 1 - 1 + 1 = f.length - 1 by (exact zq263 h2), cf_lead]
  exact Int.mul_ne_zero (hf hfne) (by (exact zq202))
theorem lap_dvd (c : Nat) (L : Int) : ∀ (rs : List Row) (F : List Row → Int), (∀ r ∈ rs, L ∣ r c) → L ∣ lap c F rs
  | [], F, _ => Int.dvd_zero L
  | r :: rs, F, h => Int.dvd_sub (Int.dvd_mul_of_dvd_left (h r List.mem_cons_self) ) (lap_dvd c L rs _ fun s hs => h s (List.mem_cons_of_mem _ hs))
theorem lead_dvd_res {f : List Int} (h2 : 2 ≤ f.length) : lead f ∣ Res f (derive f) := by
  unfold Res sub
  rw [derive_len]
  obtain ⟨m, hm⟩ : ∃ m, f.length = m + 2 := ⟨f.length - 2, by (exact zq266 h2)⟩
  rw [hm]
  have key : ∀ T, T = 2 * m → lead f ∣ det (cols 0 0 T) (rows (cf f) (m + 2 - 1 - 1 - 0) ++ rows (cf (derive f)) (m + 2 - 1 - 0)) := by
    intro T hT
    have entries : ∀ r ∈ rows (cf f) (m + 2 - 1 - 1 - 0) ++ rows (cf (derive f)) (m + 2 - 1 - 0), lead f ∣ r (2 * m) := fun r hr => by
      rcases List.mem_append.mp hr with hr | hr
      · obtain ⟨i, hi, rfl⟩ := of_mem_rows hr
        unfold sh
        rw [if_neg (by (exact zq506 h2 hm hi))]
        by_cases q : 2 * m - i = m + 1
        · rw [q, show m + 1 = f.length - 1 by (exact zq608 hm hT q), cf_lead]; exact Int.dvd_refl _
        · rw [cf_ge (by (exact zq505 h2 hm hi q))]; exact Int.dvd_zero _
      · obtain ⟨i, hi, rfl⟩ := of_mem_rows hr
        unfold sh
        rw [if_neg (by (exact zq600 h2 hm hT hi)), derive_cf]
        by_cases q : 2 * m - i = m
        · rw [q, show m + 1 = f.length - 1 by (exact zq607 hm hT q), cf_lead]; exact Int.dvd_mul_right _ _
        · rw [cf_ge (by (exact zq504 h2 hm hi q))]; simp
    match T, hT with
    | 0, hT =>
      have : m = 0 := by (exact zq245 hT)
      subst this
      exact lap_dvd 0 _ _ _ entries
    | T + 1, hT =>
      rw [show cols 0 0 (T + 1) = (0 + 1 + T) :: cols 0 0 T from rfl, show 0 + 1 + T = 2 * m by (exact zq379 hT)]
      exact lap_dvd _ _ _ _ entries
  have := key (m + 2 - 1 + (m + 2 - 1 - 1) - 0 - 0 - 1) (by (exact zq364 h2 hm))
  exact this

noncomputable def disc (f : List Int) : Int := if (f.length - 1) * (f.length - 1 - 1) / 2 % 2 = 1 then - (resultant f (derive f)).fdiv (lead f) else (resultant f (derive f)).fdiv (lead f)
theorem disc_eq {f : List Int} (hf : Norm f) (h2 : 2 ≤ f.length) :
    disc f * lead f * (if (f.length - 1) * (f.length - 1 - 1) / 2 % 2 = 1 then -1 else 1) = resultant f (derive f) := by
  have hfne : f ≠ [] := by rintro rfl; simp at h2
  have dne : derive f ≠ [] := by intro q; have := derive_len f; rw [q] at this; simp at this; (exact zq267 h2 this)
  have r := resultant_eq hf (derive_norm hf) hfne dne (by rw [derive_len]; (exact zq260 h2))
  obtain ⟨x, hx⟩ := lead_dvd_res h2
  unfold disc
  rw [r, hx, Int.mul_fdiv_cancel_left _ (hf hfne)]
  split <;> grind
theorem disc_zero {f : List Int} (hf : Norm f) (h2 : 2 ≤ f.length) : disc f = 0 ↔ resultant f (derive f) = 0 := by
  have hfne : f ≠ [] := by rintro rfl; simp at h2
  have h := disc_eq hf h2
  have hl := hf hfne
  constructor
  · intro hz; rw [hz] at h; simpa using h.symm
  · intro hz
    rw [hz] at h
    rcases Int.mul_eq_zero.mp h with q | q
    · exact (Int.mul_eq_zero.mp q).resolve_right hl
    · exfalso; revert q; split <;> decide
theorem disc_quad (a b c : Int) (ha : a ≠ 0) : disc [c, b, a] = b * b - 4 * a * c := by
  have hn : Norm [c, b, a] := fun _ => ha
  have dv : derive [c, b, a] = [b, a * 2] := by
    show [b * ((0 : Nat) + 1 : Int), a * (((1 : Nat) : Int) + 1)] = _
    simp
  have r := resultant_eq hn (derive_norm hn) (by simp) (by rw [dv]; simp) (by rw [derive_len]; simp)
  have rv : Res [c, b, a] [b, a * 2] = a * (-(b * b - 4 * a * c)) := by
    unfold Res sub
    simp [det, lap, sh, cf, cols, rows]
    grind
  unfold disc
  rw [r, dv, rv]
  have : (([c, b, a] : List Int).length - 1) * (([c, b, a] : List Int).length - 1 - 1) / 2 % 2 = 1 := by simp
  rw [if_pos this, show lead [c, b, a] = a from rfl, Int.mul_fdiv_cancel_left _ ha]
  grind

/-! congruence -/
noncomputable def Cg (p : Int) (cs : List Nat) (r s : Row) : Prop := ∀ c ∈ cs, p ∣ r c - s c
inductive Cgs (p : Int) (cs : List Nat) : List Row → List Row → Prop
  | nil : Cgs p cs [] []
  | cons {r s : Row} {rs ss : List Row} (h : Cg p cs r s) (t : Cgs p cs rs ss) : Cgs p cs (r :: rs) (s :: ss)
theorem lap_cong {p : Int} {cs : List Nat} {c : Nat} (hc : c ∈ cs) : ∀ {rs ss : List Row} {F G : List Row → Int}, Cgs p cs rs ss → (∀ l l', Cgs p cs l l' → p ∣ F l - G l') → p ∣ lap c F rs - lap c G ss
  | [], _, F, G, .nil, _ => by simp [lap]
  | r :: rs, _, F, G, @Cgs.cons _ _ _ s _ ss h t, hF => by
    have h1 := lap_cong hc (F := fun l => F (r :: l)) (G := fun l => G (s :: l)) t fun l l' hl => hF _ _ (.cons h hl)
    obtain ⟨x, hx⟩ := h c hc
    obtain ⟨y, hy⟩ := hF _ _ t
    obtain ⟨z, hz⟩ := h1
    simp only [lap]
    exact ⟨x * F rs + s c * y - z, by grind⟩
theorem Cgs.sub {p : Int} {cs cs' : List Nat} (h : ∀ c ∈ cs', c ∈ cs) {rs ss : List Row} (t : Cgs p cs rs ss) : Cgs p cs' rs ss := by
  induction t with
  | nil => exact .nil
  | cons h' _ ih => exact .cons (fun c hc => h' c (h c hc)) ih
theorem det_cong {p : Int} : ∀ (cs : List Nat) {rs ss : List Row}, Cgs p cs rs ss → p ∣ det cs rs - det cs ss
  | [], _, _, .nil => by simp [det]
  | [], _, _, .cons _ _ => by simp [det]
  | c :: cs, rs, ss, h => lap_cong List.mem_cons_self h fun l l' hl => det_cong cs (hl.sub fun c hc => List.mem_cons_of_mem _ hc)
theorem Cg.refl {p : Int} {cs : List Nat} (r : Row) : Cg p cs r r := fun c _ => by simp
theorem Cgs.refl {p : Int} {cs : List Nat} : ∀ rs : List Row, Cgs p cs rs rs
  | [] => .nil
  | r :: rs => .cons (Cg.refl r) (Cgs.refl rs)

theorem f_swap2 {F : List Row → Int} (m : ML F) (t : Alt F) (mid post : List Row) (x y : Row) : F (x :: (mid ++ y :: post)) = - F (y :: (mid ++ x :: post)) := by
  have h1 := f_move m t mid [x] post y
  have h2 := f_move m t mid [y] post x
  have h3 := f_swap m t [] (mid ++ post) x y
  simp only [List.cons_append, List.nil_append] at h1 h2 h3
  rw [h1, h2, h3]; grind
theorem f_addBack {F : List Row → Int} (m : ML F) (t : Alt F) (mid post : List Row) (s r : Row) (a : Int) : F (s :: (mid ++ lc 1 r a s :: post)) = F (s :: (mid ++ r :: post)) := by
  have h1 := m (s :: mid) post r s 1 a
  have h2 := f_eq m t [] mid post s
  simp only [List.cons_append, List.nil_append] at h1 h2
  rw [h1, h2]; simp

/-! Fermat -/
noncomputable def ch : Nat → Nat → Nat
  | _, 0 => 1
  | 0, _ + 1 => 0
  | n + 1, k + 1 => ch n k + ch n (k + 1)
theorem ch_big : ∀ n k, n < k → ch n k = 0
  | _, 0, h => by (exact zq432 h)
  | 0, _ + 1, _ => rfl
  | n + 1, k + 1, h => by simp only [ch]; rw [ch_big n k (by (exact zq377 h)), ch_big n (k + 1) (by (exact zq378 h))]
theorem ch_self : ∀ n, ch n n = 1
  | 0 => rfl
  | n + 1 => by simp only [ch]; rw [ch_self n, ch_big n (n + 1) (by (exact zq3))]
theorem ch_mul : ∀ n k, (k + 1) * ch (n + 1) (k + 1) = (n + 1) * ch n k
  | 0, 0 => by simp [ch]
  | 0, k + 1 => by simp [ch]
  | n + 1, 0 => by
    have := ch_mul n 0
    simp only [ch] at this ⊢
    (exact zq352 this)
  | n + 1, k + 1 => by
    have h1 := ch_mul n k
    have h2 := ch_mul n (k + 1)
    show (k + 1 + 1) * (ch (n + 1) (k + 1) + ch (n + 1) (k + 1 + 1)) = (n + 1 + 1) * ch (n + 1) (k + 1)
    have e : ch (n + 1) (k + 1) = ch n k + ch n (k + 1) := rfl
    rw [Nat.mul_add, h2]
    have : (k + 1 + 1) * ch (n + 1) (k + 1) = (k + 1) * ch (n + 1) (k + 1) + ch (n + 1) (k + 1) := by grind
    rw [this, h1, e]
    grind
noncomputable def bsum (x : Nat) (n : Nat) : Nat → Nat
  | 0 => 0
  | k + 1 => bsum x n k + ch n k * x ^ k
theorem binom_aux (x n : Nat) : ∀ k, bsum x (n + 1) (k + 1) = bsum x n (k + 1) + x * bsum x n k
  | 0 => by simp [bsum, ch]
  | k + 1 => by
    have ih := binom_aux x n k
    show bsum x (n + 1) (k + 1) + ch (n + 1) (k + 1) * x ^ (k + 1) = (bsum x n (k + 1) + ch n (k + 1) * x ^ (k + 1)) + x * (bsum x n k + ch n k * x ^ k)
    rw [ih]
    show _ + (ch n k + ch n (k + 1)) * x ^ (k + 1) = _
    rw [Nat.pow_succ]
    grind
theorem binom (x : Nat) : ∀ n, (x + 1) ^ n = bsum x n (n + 1)
  | 0 => by simp [bsum, ch]
  | n + 1 => by
    rw [binom_aux, Nat.pow_succ, binom x n]
    have : bsum x n (n + 1 + 1) = bsum x n (n + 1) := by
      show bsum x n (n + 1) + ch n (n + 1) * x ^ (n + 1) = _
      rw [ch_big n (n + 1) (by (exact zq3))]; simp
    rw [this]; grind
noncomputable def IsP (p : Nat) : Prop := 2 ≤ p ∧ ∀ d, d ∣ p → d = 1 ∨ d = p
theorem ch_dvd {p : Nat} (hp : IsP p) {k : Nat} (h0 : 0 < k) (hk : k < p) : p ∣ ch p k := by
  obtain ⟨n, rfl⟩ : ∃ n, p = n + 1 := ⟨p - 1, by have := hp.1; (exact zq265 this)⟩
  obtain ⟨j, rfl⟩ : ∃ j, k = j + 1 := ⟨k - 1, by (exact zq37 h0)⟩
  have h := ch_mul n j
  have co : Nat.Coprime (n + 1) (j + 1) := by
    rcases hp.2 _ (Nat.gcd_dvd_left (n + 1) (j + 1)) with q | q
    · exact q
    · exfalso
      have := Nat.le_of_dvd (by (exact zq244 h0)) (Nat.gcd_dvd_right (n + 1) (j + 1))
      (exact zq518 hk q this)
  exact co.dvd_of_dvd_mul_left (n := ch (n + 1) (j + 1)) ⟨ch n j, h⟩
theorem bsum_mod {p : Nat} (hp : IsP p) (x : Nat) : ∀ k, k < p → bsum x p (k + 1) % p = 1 % p
  | 0, _ => by simp [bsum, ch]
  | k + 1, h => by
    have ih := bsum_mod hp x k (by (exact zq376 h))
    show (bsum x p (k + 1) + ch p (k + 1) * x ^ (k + 1)) % p = _
    obtain ⟨y, hy⟩ := ch_dvd hp (k := k + 1) (by (exact zq72)) h
    rw [hy, Nat.mul_assoc, Nat.add_mul_mod_self_left]; exact ih
theorem fermat_pow {p : Nat} (hp : IsP p) : ∀ x : Nat, x ^ p % p = x % p
  | 0 => by rw [Nat.zero_pow (by have := hp.1; (exact zq258 this))]
  | x + 1 => by
    have ih := fermat_pow hp x
    rw [binom]
    show (bsum x p p + ch p p * x ^ p) % p = _
    have h := bsum_mod hp x (p - 1) (by have := hp.1; (exact zq264 this))
    rw [show p - 1 + 1 = p by have := hp.1; (exact zq262 this)] at h
    rw [ch_self, Nat.one_mul, Nat.add_mod, h, ih, ← Nat.add_mod, Nat.add_comm]
theorem fermat {p : Nat} (hp : IsP p) {x : Nat} (h0 : 0 < x) (hx : x < p) : x * x ^ (p - 2) % p = 1 := by
  have h := fermat_pow hp x
  have h2 := hp.1
  have e : x ^ p = x * (x * x ^ (p - 2)) := by
    rw [← Nat.pow_succ', ← Nat.pow_succ', show (p - 2).succ.succ = p by (exact zq261 h2)]
  have co : Nat.Coprime p x := by
    rcases hp.2 _ (Nat.gcd_dvd_left p x) with q | q
    · exact q
    · exfalso
      have := Nat.le_of_dvd h0 (Nat.gcd_dvd_right p x)
      (exact zq531 hx q this)
  have hp1 : 1 ≤ x * x ^ (p - 2) := Nat.mul_pos h0 (Nat.pow_pos h0)
  have d : p ∣ x * (x * x ^ (p - 2) - 1) := by
    rw [Nat.mul_sub, Nat.mul_one, ← e]
    exact Nat.dvd_of_mod_eq_zero (Nat.sub_mod_eq_zero_of_mod_eq h)
  have d2 := co.dvd_of_dvd_mul_left d
  obtain ⟨y, hy⟩ := d2
  have : x * x ^ (p - 2) = p * y + 1 := by (exact zq598 hp1 hy)
  rw [this, Nat.mul_add_mod]
  exact Nat.mod_eq_of_lt (by (exact zq78 h2))

/-- no divisor from a on, k of them -/
noncomputable def noDiv (p : Nat) : Nat → Nat → Bool
  | _, 0 => true
  | a, k + 1 => p % a != 0 && noDiv p (a + 1) k
theorem noDiv_ok (p : Nat) : ∀ k a, noDiv p a k = true → ∀ d, a ≤ d → d < a + k → ¬ d ∣ p
  | 0, a, _, d, h1, h2 => by (exact (zq420 h1 h2).elim)
  | k + 1, a, h, d, h1, h2 => by
    simp only [noDiv, Bool.and_eq_true, bne_iff_ne, ne_eq] at h
    by_cases q : d = a
    · subst q; intro hd; exact h.1 (Nat.mod_eq_zero_of_dvd hd)
    · exact noDiv_ok p k (a + 1) h.2 d (by (exact zq423 h1 q)) (by (exact zq532 h2))
theorem isP_of {p s : Nat} (h2 : 2 ≤ p) (hs : p < (s + 1) * (s + 1)) (h : noDiv p 2 (s - 1) = true) (hs1 : 1 ≤ s) : IsP p := by
  have no : ∀ d, 2 ≤ d → d ≤ s → ¬ d ∣ p := fun d h1 h3 => noDiv_ok p _ _ h d h1 (by (exact zq356 hs1 h3))
  refine ⟨h2, fun d hd => ?_⟩
  obtain ⟨e, he⟩ := hd
  by_cases q1 : d = 1
  · exact .inl q1
  · right
    have hd0 : d ≠ 0 := by rintro rfl; simp at he; (exact zq79 h2 he)
    have hds : s < d := by
      apply Nat.lt_of_not_le
      intro hle
      exact no d (by (exact zq330 q1 hd0)) hle ⟨e, he⟩
    have he0 : e ≠ 0 := by rintro rfl; simp at he; (exact zq79 h2 he)
    have hes : e ≤ s := by
      apply Nat.le_of_not_lt
      intro hlt
      have : (s + 1) * (s + 1) ≤ d * e := Nat.mul_le_mul hds hlt
      (exact zq602 hs he this)
    have : e = 1 := by
      apply Decidable.byContradiction
      intro hne
      exact no e (by (exact zq296 he0 hne)) hes ⟨d, by rw [he]; exact Nat.mul_comm _ _⟩
    rw [he, this]; simp
theorem isP1 : IsP 10007 := isP_of (s := 100) (by decide) (by decide) (by decide +kernel) (by decide)
theorem isP2 : IsP 1000003 := isP_of (s := 1000) (by decide) (by decide) (by decide +kernel) (by decide)
theorem isP3 : IsP 998244353 := isP_of (s := 31595) (by decide) (by decide) (by decide +kernel) (by decide)
end Mine.Law
namespace Mine.Law

theorem Inv.step2 {R : Nat → Nat → Int} {s₀ : Int} {A B : List Int} {g h s : Int} (I : Inv R s₀ A B g h s) (hB : 1 < B.length) :
    (∀ k, cf ((prest A B).map fun x => x.fdiv (g * h ^ (A.length - B.length))) k = 0 ∨ ∃ u : Int, u * u = 1 ∧ k ≤ B.length - 1 - 1 ∧ cf ((prest A B).map fun x => x.fdiv (g * h ^ (A.length - B.length))) k = u * R (B.length - 1 - 1) k) ∧
    ((if 0 < A.length - B.length then (lead B ^ (A.length - B.length)).fdiv (h ^ (A.length - B.length - 1)) else h) = h ∨ (B.length - 1 < A.length - 1 ∧ ∃ u : Int, u * u = 1 ∧ (if 0 < A.length - B.length then (lead B ^ (A.length - B.length)).fdiv (h ^ (A.length - B.length - 1)) else h) = u * R (B.length - 1) (B.length - 1))) := by
  obtain ⟨d, t, hd, he⟩ := I.shape hB
  obtain ⟨hC, rem⟩ := I.rem hd he
  have hβ : g * h ^ t ≠ 0 := Int.mul_ne_zero I.g0 (Int.pow_ne_zero I.h0)
  have bt := fun hgap => I.bt (t := t) hd he hgap
  rw [hd, he, na1, Nat.add_sub_cancel, Nat.add_sub_cancel]
  have cfC : ∀ k, cf ((prest A B).map fun x => x.fdiv (g * h ^ t)) k = (cf (prest A B) k).fdiv (g * h ^ t) := fun k => cf_map _ (by simp) (prest A B) k
  refine ⟨fun k => ?_, ?_⟩
  · by_cases hk : k ≤ d
    · obtain ⟨u, hu, h1⟩ := rem k hk
      refine .inr ⟨u, hu, hk, ?_⟩
      rw [cfC]
      exact fdiv_exact hβ (st3 h1)
    · left
      rw [cfC, cf_ge (l := prest A B) (Nat.le_trans hC (Nat.lt_of_not_le hk))]; simp
  · by_cases hgap : 0 < t
    · rw [if_pos hgap]
      obtain ⟨u, hu, h2⟩ := bt hgap
      exact .inr ⟨Nat.lt_add_of_pos_right hgap, u, hu, fdiv_exact (Int.pow_ne_zero I.h0) h2⟩
    · rw [if_neg hgap]; exact .inl rfl

noncomputable def BdR (M : Nat) (r : Row) : Prop := ∀ i, (r i).natAbs ≤ M
theorem lap_bound (c M B : Nat) : ∀ (rs : List Row) (n : Nat) (F : List Row → Int), rs.length ≤ n → (∀ r ∈ rs, BdR M r) → (∀ l, (∀ r ∈ l, BdR M r) → l.length + 1 ≤ n → (F l).natAbs ≤ B) → (lap c F rs).natAbs ≤ rs.length * (M * B)
  | [], n, F, _, _, _ => by simp [lap]
  | r :: rs, n, F, hn, hr, hF => by
    have hrs : ∀ s ∈ rs, BdR M s := fun s hs => hr s (List.mem_cons_of_mem _ hs)
    simp only [List.length_cons] at hn
    have h1 := hF rs hrs hn
    have h2 := lap_bound c M B rs (n - 1) (fun rs' => F (r :: rs')) (by (exact zq385 hn)) hrs fun l hl hln => hF (r :: l) (fun s hs => by
      rcases List.mem_cons.mp hs with rfl | hs
      · exact hr _ List.mem_cons_self
      · exact hl s hs) (by simp only [List.length_cons]; (exact zq570 hn hln))
    have h3 := hr r List.mem_cons_self c
    simp only [lap, List.length_cons]
    have h4 := Int.natAbs_sub_le (r c * F rs) (lap c (fun rs' => F (r :: rs')) rs)
    have h5 : (r c * F rs).natAbs ≤ M * B := by rw [Int.natAbs_mul]; exact Nat.mul_le_mul h3 h1
    rw [Nat.succ_mul]; (exact zq188 h2 h4 h5)
theorem det_bound (M L : Nat) : ∀ (cs : List Nat) (rs : List Row), rs.length ≤ L → (∀ r ∈ rs, BdR M r) → (det cs rs).natAbs ≤ (L * M) ^ cs.length
  | [], [], _, _ => by simp [det]
  | [], _ :: _, _, _ => by simp [det]
  | c :: cs, rs, hl, hr => by
    have := lap_bound c M ((L * M) ^ cs.length) rs L (det cs) hl hr fun l h1 h2 => det_bound M L cs l (by (exact zq26 h2)) h1
    rw [List.length_cons, Nat.pow_succ]
    refine Nat.le_trans (show (det (c :: cs) rs).natAbs ≤ _ from this) ?_
    rw [← Nat.mul_assoc, Nat.mul_comm ((L * M) ^ cs.length)]
    exact Nat.mul_le_mul (Nat.mul_le_mul hl (Nat.le_refl _)) (Nat.le_refl _)
theorem cols_len (j k : Nat) : ∀ t, (cols j k t).length = t + 1
  | 0 => rfl
  | t + 1 => by simp [cols, cols_len j k t]
theorem sub_bound {M m n : Nat} {A B : Row} (hA : BdR M A) (hB : BdR M B) (j k : Nat) (L : Nat) (hL : m + n ≤ L) (hM : 1 ≤ M) (hL1 : 1 ≤ L) : (sub j k m n A B).natAbs ≤ (L * M) ^ L := by
  unfold sub
  have hr : ∀ r ∈ rows A (n - j) ++ rows B (m - j), BdR M r := fun r hr i => by
    rcases List.mem_append.mp hr with h | h
    · obtain ⟨t, _, rfl⟩ := of_mem_rows h; unfold sh; split
      · simp
      · exact hA _
    · obtain ⟨t, _, rfl⟩ := of_mem_rows h; unfold sh; split
      · simp
      · exact hB _
  refine Nat.le_trans (det_bound M L _ _ (by rw [List.length_append, rows_len, rows_len]; (exact zq620 hL)) hr) ?_
  rw [cols_len]
  refine Nat.pow_le_pow_right (Nat.mul_pos hL1 hM) (by (exact zq601 hL hL1))
end Mine.Law
namespace Mine.Law

/-! elimination -/
noncomputable def upd (M : Nat → List Int) (j : Nat) (v : List Int) : Nat → List Int := fun i => if i = j then v else M i
/-- the minor from row and column k on -/
noncomputable def minor (N k : Nat) (M : Nat → List Int) : Int := det (List.range' k (N - k)) ((List.range' k (N - k)).map fun i => cf (M i))

theorem range_cons {N k : Nat} (h : k < N) : List.range' k (N - k) = k :: List.range' (k + 1) (N - (k + 1)) := by
  rw [show N - k = (N - (k + 1)) + 1 by (exact zq440 h), List.range'_succ]
theorem range_cut {N k j : Nat} (hk : k < j) (hj : j < N) : List.range' k (N - k) = k :: (List.range' (k + 1) (j - (k + 1)) ++ j :: List.range' (j + 1) (N - (j + 1))) := by
  rw [range_cons (by (exact zq536 hk hj)), show N - (k + 1) = (j - (k + 1)) + (N - j) by (exact zq556 hk hj), ← List.range'_append_1, show k + 1 + (j - (k + 1)) = j by (exact zq392 hk), range_cons hj]
theorem range_mem {k n i : Nat} (h : i ∈ List.range' k n) : k ≤ i ∧ i < k + n := by
  simpa [List.mem_range'_1] using h

theorem minor_zero {N k : Nat} {M : Nat → List Int} (hk : k < N) (h : ∀ i, k ≤ i → i < N → cf (M i) k = 0) : minor N k M = 0 := by
  unfold minor
  rw [range_cons hk]
  show lap k _ _ = 0
  refine lap_col0 k _ _ fun r hr => ?_
  rw [← range_cons hk] at hr
  obtain ⟨i, hi, rfl⟩ := List.mem_map.mp hr
  have := range_mem hi
  exact h i this.1 (by (exact zq577 hk this))

theorem minor_tri {N k : Nat} {M : Nat → List Int} (hk : k < N) (h : ∀ i, k < i → i < N → cf (M i) k = 0) : minor N k M = cf (M k) k * minor N (k + 1) M := by
  unfold minor
  rw [range_cons hk, List.map_cons]
  refine det_tri k _ _ _ fun s hs => ?_
  obtain ⟨i, hi, rfl⟩ := List.mem_map.mp hs
  have := range_mem hi
  exact h i (by (exact zq521 this)) (by (exact zq576 hk this))

theorem minor_end {N : Nat} {M : Nat → List Int} : minor N N M = 1 := by
  unfold minor
  rw [Nat.sub_self]; rfl

theorem map_off {N : Nat} (M M' : Nat → List Int) (l : List Nat) (h : ∀ i ∈ l, M i = M' i) : l.map (fun i => cf (M i)) = l.map fun i => cf (M' i) :=
  List.map_congr_left fun i hi => by rw [h i hi]

theorem minor_swap {N k j : Nat} {M : Nat → List Int} (hk : k < j) (hj : j < N) : minor N k (upd (upd M k (M j)) j (M k)) = - minor N k M := by
  unfold minor
  generalize hc : List.range' k (N - k) = cs
  have e := hc.symm.trans (range_cut hk hj)
  have h1 : cs.map (fun i => cf (M i)) = cf (M k) :: ((List.range' (k + 1) (j - (k + 1))).map (fun i => cf (M i)) ++ cf (M j) :: (List.range' (j + 1) (N - (j + 1))).map (fun i => cf (M i))) := by rw [e]; simp
  have h2 : cs.map (fun i => cf (upd (upd M k (M j)) j (M k) i)) = cf (M j) :: ((List.range' (k + 1) (j - (k + 1))).map (fun i => cf (M i)) ++ cf (M k) :: (List.range' (j + 1) (N - (j + 1))).map (fun i => cf (M i))) := by
    rw [e, List.map_cons, List.map_append, List.map_cons]
    congr 1
    · unfold upd; rw [if_neg (by (exact zq53 hk)), if_pos rfl]
    · congr 1
      · refine map_off (N := N) _ _ _ fun i hi => ?_
        have := range_mem hi
        unfold upd; rw [if_neg (by (exact zq145 hk this)), if_neg (by (exact zq58 this))]
      · congr 1
        · unfold upd; rw [if_pos rfl]
        · refine map_off (N := N) _ _ _ fun i hi => ?_
          have := range_mem hi
          unfold upd; rw [if_neg (by (exact zq58 this)), if_neg (by (exact zq606 hk this))]
  rw [h1, h2]
  exact f_swap2 (det_ML cs) (det_Alt cs) _ _ _ _

theorem Cgs.append {p : Int} {cs : List Nat} {a b c d : List Row} (h : Cgs p cs a b) (t : Cgs p cs c d) : Cgs p cs (a ++ c) (b ++ d) := by
  induction h with
  | nil => exact t
  | cons h _ ih => exact .cons h ih

theorem minor_elim {N k j : Nat} {M : Nat → List Int} {p off : Int} {v : List Int} (hk : k < j) (hj : j < N) (h : ∀ c, k ≤ c → c < N → p ∣ cf v c - (cf (M j) c - off * cf (M k) c)) : p ∣ minor N k (upd M j v) - minor N k M := by
  unfold minor
  generalize hc : List.range' k (N - k) = cs
  have e := hc.symm.trans (range_cut hk hj)
  have h1 : cs.map (fun i => cf (M i)) = cf (M k) :: ((List.range' (k + 1) (j - (k + 1))).map (fun i => cf (M i)) ++ cf (M j) :: (List.range' (j + 1) (N - (j + 1))).map (fun i => cf (M i))) := by rw [e]; simp
  have h2 : cs.map (fun i => cf (upd M j v i)) = cf (M k) :: ((List.range' (k + 1) (j - (k + 1))).map (fun i => cf (M i)) ++ cf v :: (List.range' (j + 1) (N - (j + 1))).map (fun i => cf (M i))) := by
    rw [e, List.map_cons, List.map_append, List.map_cons]
    congr 1
    · unfold upd; rw [if_neg (by (exact zq53 hk))]
    · congr 1
      · refine map_off (N := N) _ _ _ fun i hi => ?_
        have := range_mem hi
        unfold upd; rw [if_neg (by (exact zq145 hk this))]
      · congr 1
        · unfold upd; rw [if_pos rfl]
        · refine map_off (N := N) _ _ _ fun i hi => ?_
          have := range_mem hi
          unfold upd; rw [if_neg (by (exact zq58 this))]
  rw [h1, h2, ← f_addBack (det_ML cs) (det_Alt cs) _ _ (cf (M k)) (cf (M j)) (-off)]
  refine det_cong cs (.cons (Cg.refl _) (Cgs.append (Cgs.refl _) (.cons (fun c hcm => ?_) (Cgs.refl _))))
  rw [← hc] at hcm
  have := range_mem hcm
  have := h c this.1 (by (exact zq624 hk hj this))
  unfold lc
  rw [show 1 * cf (M j) c + -off * cf (M k) c = cf (M j) c - off * cf (M k) c by grind]
  exact this

/-- the first step: all is reckoned mod p -/
theorem minor_mod {N : Nat} {M M' : Nat → List Int} {p : Int} (h : ∀ i c, i < N → c < N → p ∣ cf (M' i) c - cf (M i) c) : p ∣ minor N 0 M' - minor N 0 M := by
  unfold minor
  refine det_cong _ ?_
  have key : ∀ l : List Nat, (∀ i ∈ l, i < N) → Cgs p (List.range' 0 (N - 0)) (l.map fun i => cf (M' i)) (l.map fun i => cf (M i)) := by
    intro l
    induction l with
    | nil => intro _; exact .nil
    | cons i l ih =>
      intro hl
      refine .cons (fun c hc => ?_) (ih fun i hi => hl i (List.mem_cons_of_mem _ hi))
      have := range_mem hc
      exact h i c (hl i List.mem_cons_self) (by (exact zq109 this))
  refine key _ fun i hi => ?_
  have := range_mem hi
  (exact zq109 this)

/-- what the elimination keeps: found * minor = the determinant, mod p -/
noncomputable def EInv (p : Int) (D0 found : Int) (N k : Nat) (M : Nat → List Int) : Prop := p ∣ found * minor N k M - D0

theorem EInv.swap {p D0 found : Int} {N k j : Nat} {M : Nat → List Int} (h : EInv p D0 found N k M) (hk : k < j) (hj : j < N) : EInv p D0 (-found) N k (upd (upd M k (M j)) j (M k)) := by
  unfold EInv at *
  rw [minor_swap hk hj]
  rwa [show -found * -minor N k M = found * minor N k M by grind]
theorem EInv.elim {p D0 found : Int} {N k j : Nat} {M : Nat → List Int} (h : EInv p D0 found N k M) {off : Int} {v : List Int} (hk : k < j) (hj : j < N) (hv : ∀ c, k ≤ c → c < N → p ∣ cf v c - (cf (M j) c - off * cf (M k) c)) : EInv p D0 found N k (upd M j v) := by
  unfold EInv at *
  obtain ⟨x, hx⟩ := h
  obtain ⟨y, hy⟩ := minor_elim hk hj hv
  exact ⟨x + found * y, by grind⟩
theorem EInv.zero {p D0 found : Int} {N k : Nat} {M : Nat → List Int} (h : EInv p D0 found N k M) (hk : k < N) (hz : ∀ i, k ≤ i → i < N → cf (M i) k = 0) : p ∣ D0 := by
  unfold EInv at h
  rw [minor_zero hk hz] at h
  simpa using h

theorem fmod_dvd (x p : Int) : p ∣ x.fmod p - x := ⟨-(x.fdiv p), by have := Int.mul_fdiv_add_fmod x p; grind⟩
theorem fmod_zero {x p : Int} (h : p ∣ x) : x.fmod p = 0 := Int.fmod_eq_zero_of_dvd h
theorem fmod_cong {x y p : Int} (h : p ∣ x - y) : x.fmod p = y.fmod p := by
  obtain ⟨z, hz⟩ := h
  rw [show x = y + p * z by (exact zq185 hz), Int.add_mul_fmod_self_left]
/-- a step is done: found takes the pivot -/
theorem EInv.next {p D0 found found' : Int} {N k : Nat} {M : Nat → List Int} (hk : k < N) (h : EInv p D0 found N k M) (hz : ∀ i, k < i → i < N → cf (M i) k = 0) (hf : found' = (found * cf (M k) k).fmod p) : EInv p D0 found' N (k + 1) M := by
  unfold EInv at *
  rw [minor_tri hk hz] at h
  obtain ⟨x, hx⟩ := h
  obtain ⟨y, hy⟩ := fmod_dvd (found * cf (M k) k) p
  rw [← hf] at hy
  exact ⟨x + y * minor N (k + 1) M, by grind⟩
theorem EInv.fin {p D0 found : Int} {N : Nat} {M : Nat → List Int} (h : EInv p D0 found N N M) : found.fmod p = D0.fmod p := by
  unfold EInv at h
  rw [minor_end, Int.mul_one] at h
  exact fmod_cong h
/-- the pivot's column is cleared -/
theorem clear {p x v r : Int} (h : p ∣ v * r - 1) : p ∣ x - (x * r).fmod p * v := by
  obtain ⟨y, hy⟩ := h
  obtain ⟨z, hz⟩ := fmod_dvd (x * r) p
  exact ⟨-(x * y) - z * v, by grind⟩
theorem small_zero {p x : Int} (h : p ∣ x) (h0 : 0 ≤ x) (h1 : x < p) : x = 0 := by
  have := Int.emod_eq_of_lt h0 h1
  rw [Int.emod_eq_zero_of_dvd h] at this
  exact this.symm
end Mine.Law
namespace Mine.Law

theorem rows_eq (A : Row) : ∀ k, rows A k = (List.range k).map fun r => sh (k - 1 - r) A
  | 0 => rfl
  | k + 1 => by
    rw [List.range_succ_eq_map, List.map_cons, List.map_map]
    show sh k A :: rows A k = _
    rw [rows_eq A k]
    congr 1
    refine List.map_congr_left fun r hr => ?_
    show _ = sh (k + 1 - 1 - (r + 1)) A
    rw [show k + 1 - 1 - (r + 1) = k - 1 - r by (exact zq343)]
theorem cols_eq : ∀ t, cols 0 0 t = (List.range (t + 1)).map fun i => t - i
  | 0 => rfl
  | t + 1 => by
    show (0 + 1 + t) :: cols 0 0 t = _
    rw [cols_eq t, List.range_succ_eq_map (n := t + 1), List.map_cons, List.map_map]
    rw [show 0 + 1 + t = t + 1 - 0 by (exact zq205)]
    congr 1
    refine List.map_congr_left fun r hr => ?_
    show t - r = t + 1 - (r + 1)
    (exact zq346)
theorem Cgs.maps {p : Int} {cs : List Nat} {f g : Nat → Row} : ∀ (l : List Nat), (∀ i ∈ l, Cg p cs (f i) (g i)) → Cgs p cs (l.map f) (l.map g)
  | [], _ => .nil
  | i :: l, h => .cons (h i List.mem_cons_self) (Cgs.maps l fun i hi => h i (List.mem_cons_of_mem _ hi))

theorem det_matrix {a b : List Int} {M : Nat → List Int} {N : Nat} (hN : N = (a.length - 1) + (b.length - 1)) (h1 : 1 ≤ N)
    (h : ∀ r c, r < N → c < N → cf (M r) c = if r < b.length - 1 then sh (b.length - 1 - 1 - r) (cf a) (N - 1 - c) else sh (a.length - 1 - 1 - (r - (b.length - 1))) (cf b) (N - 1 - c)) :
    minor N 0 M = Res a b := by
  unfold Res sub minor
  generalize hm : a.length - 1 = m at *
  generalize hn : b.length - 1 = n at *
  let R : Nat → Row := fun r => if r < n then sh (n - 1 - r) (cf a) else sh (m - 1 - (r - n)) (cf b)
  have hR : rows (cf a) n ++ rows (cf b) m = (List.range N).map R := by
    rw [rows_eq, rows_eq, hN, Nat.add_comm m n, List.range_add, List.map_append, List.map_map]
    congr 1
    · refine List.map_congr_left fun r hr => ?_
      have := List.mem_range.mp hr
      show _ = if r < n then _ else _
      rw [if_pos this]
    · refine List.map_congr_left fun r hr => ?_
      show _ = if n + r < n then _ else _
      rw [if_neg (by (exact zq350)), show n + r - n = r by (exact zq50)]
  have hC : cols 0 0 (m + n - 0 - 0 - 1) = (List.range N).map fun i => N - 1 - i := by
    rw [cols_eq, show m + n - 0 - 0 - 1 + 1 = N by (exact zq502 h1 hN), show m + n - 0 - 0 - 1 = N - 1 by (exact zq503 h1 hN)]
  rw [hR, hC, ← det_map, Nat.sub_zero, ← List.range_eq_range', List.map_map]
  have := det_cong (p := 0) (List.range N) (Cgs.maps (p := 0) (cs := List.range N) (f := fun i => cf (M i)) (g := (fun r i => r (N - 1 - i)) ∘ R) (List.range N) fun i hi c hc => ?_)
  · obtain ⟨x, hx⟩ := this
    rw [Int.zero_mul] at hx
    (exact zq181 hx)
  · have hi := List.mem_range.mp hi
    have hc := List.mem_range.mp hc
    have e : cf (M i) c = R i (N - 1 - c) := by
      rw [h i c hi hc]
      show _ = (if i < n then sh (n - 1 - i) (cf a) else sh (m - 1 - (i - n)) (cf b)) (N - 1 - c)
      split <;> rfl
    show 0 ∣ cf (M i) c - R i (N - 1 - c)
    rw [e, Int.sub_self]; exact Int.dvd_refl 0
end Mine.Law
section
open PySem PySem.Calls PyProof.Rows
namespace Mine

theorem noS {α : Type _} {x : Option α} {o : α} {P : Prop} (n : x = none) (e : x = some o) : P := by rw [n] at e; cases e

/-- values without their places -/
inductive PV where
  | int (i : Int)
  | bool (b : Bool)
  | none
  | dd (d : Addr)
  | list (l : List PV)
  | tup (l : List PV)

mutual
noncomputable def Rep (X : Addr → Prop) (h : Heap) : PV → Value → Prop
  | .int i, v => ∃ t, v = .int i t
  | .bool b, v => v = .bool b
  | .none, v => v = .none
  | .dd d, v => v = .ref d
  | .list l, v => ∃ a vs, v = .ref a ∧ ¬ X a ∧ h.PlainList a vs.toArray ∧ Reps X h l vs
  | .tup l, v => ∃ a vs, v = .ref a ∧ ¬ X a ∧ h.IsTuple a vs.toArray ∧ Reps X h l vs
noncomputable def Reps (X : Addr → Prop) (h : Heap) : List PV → List Value → Prop
  | [], vs => vs = []
  | t :: l, vs => ∃ v r, vs = v :: r ∧ Rep X h t v ∧ Reps X h l r
end

section
variable {X X' : Addr → Prop} {h h' : Heap}

mutual
theorem Rep.keep (k : ∀ b o, ¬ X b → h.get? b = some o → ¬ X' b ∧ h'.get? b = some o) : ∀ (t : PV) (v : Value), Rep X h t v → Rep X' h' t v
  | .int i, v, r => r
  | .bool b, v, r => r
  | .none, v, r => r
  | .dd d, v, r => r
  | .list l, v, r => by
    unfold Rep at r ⊢
    obtain ⟨a, vs, e, hx, ⟨n, hp⟩, hr⟩ := r
    exact ⟨a, vs, e, (k a _ hx hp).1, ⟨n, (k a _ hx hp).2⟩, Reps.keep k l vs hr⟩
  | .tup l, v, r => by
    unfold Rep at r ⊢
    obtain ⟨a, vs, e, hx, ⟨o, hp, q⟩, hr⟩ := r
    exact ⟨a, vs, e, (k a _ hx hp).1, ⟨o, (k a _ hx hp).2, q⟩, Reps.keep k l vs hr⟩
theorem Reps.keep (k : ∀ b o, ¬ X b → h.get? b = some o → ¬ X' b ∧ h'.get? b = some o) : ∀ (l : List PV) (vs : List Value), Reps X h l vs → Reps X' h' l vs
  | [], vs, r => r
  | t :: l, vs, r => by
    unfold Reps at r ⊢
    obtain ⟨v, r', e, h1, h2⟩ := r
    exact ⟨v, r', e, Rep.keep k t v h1, Reps.keep k l r' h2⟩
end

theorem reps_iff : ∀ {l : List PV} {vs : List Value}, Reps X h l vs ↔ vs.length = l.length ∧ ∀ (i : Nat) t v, l[i]? = some t → vs[i]? = some v → Rep X h t v
  | [], vs => by
    unfold Reps
    constructor
    · rintro rfl; exact ⟨rfl, fun i t v e => by simp at e⟩
    · rintro ⟨e, _⟩; exact List.length_eq_zero_iff.mp e
  | t :: l, vs => by
    unfold Reps
    constructor
    · rintro ⟨v, r, rfl, h1, h2⟩
      obtain ⟨e, k⟩ := reps_iff.mp h2
      refine ⟨by simp [e], fun i t' v' a b => ?_⟩
      cases i with
      | zero => simp at a b; subst a; subst b; exact h1
      | succ i => simp at a b; exact k i t' v' a b
    · rintro ⟨e, k⟩
      cases vs with
      | nil => simp at e
      | cons v r =>
        refine ⟨v, r, rfl, k 0 t v rfl rfl, reps_iff.mpr ⟨by simpa using e, fun i t' v' a b => k (i + 1) t' v' (by simpa using a) (by simpa using b)⟩⟩

theorem Reps.len {l : List PV} {vs : List Value} (r : Reps X h l vs) : vs.length = l.length := (reps_iff.mp r).1
theorem Reps.at {l : List PV} {vs : List Value} (r : Reps X h l vs) {i : Nat} {t : PV} (e : l[i]? = some t) : ∃ v, vs[i]? = some v ∧ Rep X h t v := by
  have hl := r.len
  have hi : i < vs.length := by
    have := (List.getElem?_eq_some_iff.mp e).1; (exact zq557 hl this)
  exact ⟨vs[i], by simp [hi], (reps_iff.mp r).2 i t _ e (by simp [hi])⟩
theorem Reps.of_map {l : List PV} {vs : List Value} {f : Nat → Nat} {l' : List PV} {vs' : List Value} (r : Reps X h l vs) (hl : vs'.length = l'.length)
    (e : ∀ i, i < l'.length → l'[i]? = l[f i]? ∧ vs'[i]? = vs[f i]?) : Reps X h l' vs' := by
  refine reps_iff.mpr ⟨hl, fun i t v a b => ?_⟩
  have hi := (List.getElem?_eq_some_iff.mp a).1
  rw [(e i hi).1] at a
  rw [(e i hi).2] at b
  exact (reps_iff.mp r).2 _ t v a b
theorem Reps.append {l l' : List PV} {vs vs' : List Value} (r : Reps X h l vs) (r' : Reps X h l' vs') : Reps X h (l ++ l') (vs ++ vs') := by
  refine reps_iff.mpr ⟨by simp [r.len, r'.len], fun i t v a b => ?_⟩
  by_cases hi : i < l.length
  · rw [List.getElem?_append_left hi] at a
    rw [List.getElem?_append_left (by rw [r.len]; exact hi)] at b
    exact (reps_iff.mp r).2 _ t v a b
  · rw [List.getElem?_append_right (by (exact zq2 hi))] at a
    rw [List.getElem?_append_right (by rw [r.len]; (exact zq2 hi)), r.len] at b
    exact (reps_iff.mp r').2 _ t v a b
theorem Reps.nil : Reps X h [] [] := by unfold Reps; rfl
theorem Reps.one {t : PV} {v : Value} (r : Rep X h t v) : Reps X h [t] [v] := by unfold Reps; exact ⟨v, [], rfl, r, Reps.nil⟩
theorem Reps.cons {t : PV} {v : Value} {l : List PV} {vs : List Value} (r : Rep X h t v) (r' : Reps X h l vs) : Reps X h (t :: l) (v :: vs) := by unfold Reps; exact ⟨v, vs, rfl, r, r'⟩
theorem Reps.drop {l : List PV} {vs : List Value} (r : Reps X h l vs) (k : Nat) : Reps X h (l.drop k) (vs.drop k) :=
  r.of_map (f := (k + ·)) (by simp [r.len]) fun i _ => by simp
theorem Reps.take {l : List PV} {vs : List Value} (r : Reps X h l vs) (k : Nat) : Reps X h (l.take k) (vs.take k) :=
  r.of_map (f := id) (by simp [r.len]) fun i hi => by
    rw [List.length_take] at hi
    have : i < k := by (exact zq140 hi)
    simp [List.getElem?_take, this]
theorem Reps.reverse {l : List PV} {vs : List Value} (r : Reps X h l vs) : Reps X h l.reverse vs.reverse :=
  r.of_map (f := fun i => l.length - 1 - i) (by simp [r.len]) fun i hi => by
    simp at hi
    rw [List.getElem?_reverse hi, List.getElem?_reverse (by rw [r.len]; exact hi), r.len]
    exact ⟨rfl, rfl⟩
theorem Reps.set {l : List PV} {vs : List Value} (r : Reps X h l vs) {t : PV} {v : Value} (k : Nat) (rt : Rep X h t v) : Reps X h (l.set k t) (vs.set k v) := by
  refine reps_iff.mpr ⟨by simp [r.len], fun i t' v' a b => ?_⟩
  rw [List.getElem?_set] at a b
  by_cases hk : k = i
  · rw [if_pos hk] at a b
    split at a
    · split at b
      · cases a; cases b; exact rt
      · cases b
    · cases a
  · rw [if_neg hk] at a b
    exact (reps_iff.mp r).2 _ _ _ a b
theorem Reps.dropLast {l : List PV} {vs : List Value} (r : Reps X h l vs) : Reps X h l.dropLast vs.dropLast := by
  rw [List.dropLast_eq_take, List.dropLast_eq_take, r.len]; exact r.take _
end

/-- what stays: all but the place of the draws -/
noncomputable def Kp (d : Option Addr) (h h' : Heap) : Prop := ∀ b o, d ≠ some b → h.get? b = some o → h'.get? b = some o
theorem Kp.refl {d : Option Addr} {h : Heap} : Kp d h h := fun _ _ _ e => e
theorem Kp.trans {d : Option Addr} {h h' h'' : Heap} (a : Kp d h h') (b : Kp d h' h'') : Kp d h h'' := fun x o n e => b x o n (a x o n e)
theorem Kp.all {d : Option Addr} {h h' : Heap} (a : ∀ b o, h.get? b = some o → h'.get? b = some o) : Kp d h h' := fun x o _ e => a x o e

/-- the draws -/
noncomputable def Gr : Str := "great"
noncomputable def Mx : Str := "mixed"
noncomputable def DrawsAt (prog : Program) (w : World) (h : Heap) (a : Addr) (D : Int × Int) : Prop :=
  ∃ t u, h.DictOf (strKind prog w) a [(Gr, .int D.1 t), (Mx, .int D.2 u)] ∧ True

structure Cx where
  prog : Program
  w : World
  g₀ : Heap
  mg : Str → Option Value
  d : Option Addr
  A : Around
  env : Env
  X : Addr → Prop

structure GOk (g₀ : Heap) (mg : Str → Option Value) : Prop where
  g : g₀.Ns mainGlobals mg
  b : ∃ mb, g₀.Ns builtinsNs mb ∧ ∀ x : Str, x ≠ "__name__" → mb x = bootBuiltins x
  lim : g₀.NoLimit

noncomputable def Room (A : Around) (n : Nat) : Prop := A.handled = none ∧ A.depth + n < recursionLimit ∧ A.units + 8 * n + 80 < cLine
theorem Room.le {A : Around} {n m : Nat} (r : Room A n) (h : m ≤ n) : Room A m := ⟨r.1, by have := r.2.1; (exact zq619 h this), by have := r.2.2; (exact zq618 h this)⟩
theorem Room.deeper {A : Around} {n : Nat} {env : Env} (r : Room A (n + 1)) : Room (A.deeper env) n :=
  ⟨r.1, by have := r.2.1; show A.depth + 1 + n < _; (exact zq508 this), by have := r.2.2; show A.units + 3 + 8 * n + 80 < _; (exact zq522 this)⟩

abbrev Names := List (Str × NameKind)
abbrev Vals := List (Option PV)

/-- where a name stands -/
inductive Ix : Names → Str → NameKind → Nat → Prop
  | hd {x y : Str} {k : NameKind} {ns : Names} (e : x = y) : Ix ((x, k) :: ns) y k 0
  | tl {p : Str × NameKind} {y : Str} {k : NameKind} {ns : Names} {i : Nat} (h : Ix ns y k i) : Ix (p :: ns) y k (i + 1)
theorem Ix.get {ns : Names} {x : Str} {k : NameKind} {i : Nat} (h : Ix ns x k i) : ns[i]? = some (x, k) := by
  induction h with
  | hd e => subst e; rfl
  | tl _ ih => exact ih

/-- the name x, of kind k, holds v -/
inductive AtG {α : Type} (ns : Names) (l : List α) (x : Str) (k : NameKind) (v : α) : Prop
  | intro (i : Nat) (h : ns[i]? = some (x, k)) (e : l[i]? = some v) : AtG ns l x k v
inductive SetG {α : Type} (ns : Names) (l : List α) (x : Str) (k : NameKind) (v : α) (l' : List α) : Prop
  | intro (i : Nat) (h : ns[i]? = some (x, k)) (hl : i < l.length) (e : l' = l.set i v) : SetG ns l x k v l'
abbrev At (ns : Names) (σ : Vals) (x : Str) (k : NameKind) (t : PV) : Prop := AtG ns σ x k (some t)
abbrev SetAt (ns : Names) (σ : Vals) (x : Str) (k : NameKind) (t : PV) (σ' : Vals) : Prop := SetG ns σ x k (some t) σ'

section
variable {α β : Type} {ns : Names} {l l' : List α} {x y : Str} {k k' : NameKind} {v v' : α} {i : Nat}
theorem AtG.ix (h : Ix ns x k i) (e : l[i]? = some v) : AtG ns l x k v := ⟨i, h.get, e⟩
theorem SetG.ix (h : Ix ns x k i) (e : Nat.ble (i + 1) l.length = true) : SetG ns l x k v (l.set i v) := ⟨i, h.get, Nat.le_of_ble_eq_true e, rfl⟩
theorem SetG.ixe (h : Ix ns x k i) (e : Nat.ble (i + 1) l.length = true) (q : l.set i v = l') : SetG ns l x k v l' := ⟨i, h.get, Nat.le_of_ble_eq_true e, q.symm⟩
theorem AtG.none_of {P : Prop} (a : AtG [] l x k v) : P := by obtain ⟨i, h, _⟩ := a; simp at h
theorem AtG.inv {p : Str × NameKind} {o : α} (a : AtG (p :: ns) (o :: l) x k v) : (p = (x, k) ∧ o = v) ∨ AtG ns l x k v := by
  obtain ⟨i, h, e⟩ := a
  cases i with
  | zero => exact .inl ⟨Option.some.inj h, Option.some.inj e⟩
  | succ i => exact .inr ⟨i, h, e⟩
theorem AtG.mem (a : AtG ns l x k v) : (x, k) ∈ ns := by obtain ⟨i, h, _⟩ := a; exact List.mem_of_getElem? h
theorem SetG.mem (a : SetG ns l x k v l') : (x, k) ∈ ns := by obtain ⟨i, h, _⟩ := a; exact List.mem_of_getElem? h
theorem nodup_ix {j : Nat} (nd : (ns.map (·.1)).Nodup) (a : ns[i]? = some (x, k)) (b : ns[j]? = some (x, k')) : i = j := by
  have ha : (ns.map (·.1))[i]? = some x := by rw [List.getElem?_map, a]; rfl
  have hb : (ns.map (·.1))[j]? = some x := by rw [List.getElem?_map, b]; rfl
  have hi := (List.getElem?_eq_some_iff.mp ha).1
  exact (List.getElem?_inj hi nd).mp (ha.trans hb.symm)
/-- what is read behind a store -/
theorem SetG.read (h : SetG ns l x k v l') (nd : (ns.map (·.1)).Nodup) (a : AtG ns l' y k' v') : (y = x ∧ k' = k ∧ v' = v) ∨ (y ≠ x ∧ AtG ns l y k' v') := by
  obtain ⟨i, hi, hl, rfl⟩ := h
  obtain ⟨j, hj, hv⟩ := a
  by_cases q : i = j
  · subst q
    rw [List.getElem?_set_self hl] at hv
    rw [hi] at hj
    cases hj; cases hv
    exact .inl ⟨rfl, rfl, rfl⟩
  · rw [List.getElem?_set_ne q] at hv
    exact .inr ⟨fun e => q (by subst e; exact nodup_ix nd hi hj), j, hj, hv⟩
theorem SetG.back (h : SetG ns l x k v l') (hn : y ≠ x) (a : AtG ns l y k' v') : AtG ns l' y k' v' := by
  obtain ⟨i, hi, hl, rfl⟩ := h
  obtain ⟨j, hj, hv⟩ := a
  refine ⟨j, hj, ?_⟩
  rw [List.getElem?_set_ne (fun q => ?_)]
  · exact hv
  · subst q; rw [hi] at hj; cases hj; exact hn rfl
theorem SetG.self (h : SetG ns l x k v l') : AtG ns l' x k v := by
  obtain ⟨i, hi, hl, rfl⟩ := h
  exact ⟨i, hi, List.getElem?_set_self hl⟩
theorem AtG.map (f : α → β) (a : AtG ns l x k v) : AtG ns (l.map f) x k (f v) := by
  obtain ⟨i, hi, e⟩ := a
  exact ⟨i, hi, by rw [List.getElem?_map, e]; rfl⟩
theorem AtG.of_map {f : α → β} {u : β} (a : AtG ns (l.map f) x k u) : ∃ v, f v = u ∧ AtG ns l x k v := by
  obtain ⟨i, hi, e⟩ := a
  rw [List.getElem?_map, Option.map_eq_some_iff] at e
  obtain ⟨v, e, q⟩ := e
  exact ⟨v, q, i, hi, e⟩
theorem SetG.map (f : α → β) (h : SetG ns l x k v l') : SetG ns (l.map f) x k (f v) (l'.map f) := by
  obtain ⟨i, hi, hl, rfl⟩ := h
  exact ⟨i, hi, by rw [List.length_map]; exact hl, List.map_set⟩
end
theorem SetAt.read {ns : Names} {σ σ' : Vals} {x : Str} {k : NameKind} {t : PV} (h : SetAt ns σ x k t σ') (nd : (ns.map (·.1)).Nodup) {y : Str} {k' : NameKind} {t' : PV} (a : At ns σ' y k' t') : (y = x ∧ k' = k ∧ t' = t) ∨ (y ≠ x ∧ At ns σ y k' t') :=
  (SetG.read h nd a).imp (fun q => ⟨q.1, q.2.1, Option.some.inj q.2.2⟩) id

noncomputable def Reads (env : Env) (h : Heap) (x : Str) (v : Value) : NameKind → Prop
  | .local => ∃ m, h.Ns env.locals m ∧ m x = some v
  | .cell => ∃ c, env.cells.lookup x = some c ∧ h.IsCell c (some v)
  | .free => ∃ c, env.cells.lookup x = some c ∧ h.IsCell c (some v)
  | _ => False

theorem Reads.keep {env : Env} {h h' : Heap} {x : Str} {v : Value} {k : NameKind} (r : Reads env h x v k) (kp : ∀ b o, h.get? b = some o → h'.get? b = some o) : Reads env h' x v k := by
  cases k with
  | «local» => obtain ⟨m, a, b⟩ := r; exact ⟨m, a.keeps kp, b⟩
  | cell => obtain ⟨c, a, b⟩ := r; exact ⟨c, a, b.keeps kp⟩
  | free => obtain ⟨c, a, b⟩ := r; exact ⟨c, a, b.keeps kp⟩
  | _ => exact r.elim

structure EnvOk (env : Env) (ns : Names) : Prop where
  kind : env.scope.kind = .function
  glob : env.globals = mainGlobals
  blt : env.builtins = builtinsNs
  kinds : ∀ x k, (x, k) ∈ ns → env.kindOf x = some k

/-- the frame's own objects -/
noncomputable def Fo (env : Env) (b : Addr) : Prop := b = env.locals ∨ ∃ n, (n, b) ∈ env.cells

structure CxOk (c : Cx) : Prop where
  inX : ∀ b, Fo c.env b → c.X b
  apart : c.env.cells.Pairwise fun x y => x.2 ≠ y.2
  ne : ∀ n b, (n, b) ∈ c.env.cells → b ≠ c.env.locals
  new : ∀ b, Fo c.env b → c.g₀.get? b = none
  dne : ∀ b, Fo c.env b → c.d ≠ some b

/-- the state in which an expression is met -/
structure ESt (c : Cx) (ns : Names) (σ : Vals) (D : Int × Int) (h : Heap) : Prop where
  base : ∀ b o, c.g₀.get? b = some o → h.get? b = some o
  vars : ∀ x k t, At ns σ x k t → ∃ v, Reads c.env h x v k ∧ Rep c.X h t v
  dr : ∀ a, c.d = some a → DrawsAt c.prog c.w h a D ∧ c.X a ∧ c.g₀.get? a = none
  cx : CxOk c
  live : ∀ b, c.X b → ∃ o, h.get? b = some o
  ok : EnvOk c.env ns
  gl : GOk c.g₀ c.mg
  room : Room c.A 0

theorem Rep.kp {X : Addr → Prop} {d : Option Addr} {h h' : Heap} (k : Kp d h h') (dx : ∀ a, d = some a → X a) (t : PV) (v : Value) (r : Rep X h t v) : Rep X h' t v :=
  Rep.keep (fun b o hx e => ⟨hx, k b o (fun q => hx (dx b q)) e⟩) t v r
theorem Reps.kp {X : Addr → Prop} {d : Option Addr} {h h' : Heap} (k : Kp d h h') (dx : ∀ a, d = some a → X a) (t : List PV) (v : List Value) (r : Reps X h t v) : Reps X h' t v :=
  Reps.keep (fun b o hx e => ⟨hx, k b o (fun q => hx (dx b q)) e⟩) t v r

theorem DrawsAt.keep {prog : Program} {w : World} {h h' : Heap} {a : Addr} {D : Int × Int} (x : DrawsAt prog w h a D) (k : ∀ o, h.get? a = some o → h'.get? a = some o) : DrawsAt prog w h' a D := by
  obtain ⟨t, u, ⟨o, es, ep, ho, r⟩, x2⟩ := x
  exact ⟨t, u, ⟨o, es, ep, k o ho, r⟩, x2⟩
end Mine
namespace Mine

section
variable {c : Cx} {ns : Names} {σ : Vals} {D D' : Int × Int} {h h' : Heap}

theorem Heap.Ns.one {h h' : Heap} {a m} (hn : h.Ns a m) (e : ∀ o, h.get? a = some o → h'.get? a = some o) : h'.Ns a m :=
  let ⟨o, es, ep, x, r⟩ := hn; ⟨o, es, ep, e _ x, r⟩

theorem ESt.next (S : ESt c ns σ D h) (k : Kp c.d h h') (dr : ∀ a, c.d = some a → DrawsAt c.prog c.w h' a D') : ESt c ns σ D' h' where
  base := fun b o e => k b o (fun q => by
    have := (S.dr b q).2.2; exact noS (this) e) (S.base b o e)
  vars := fun x kd t a => by
    obtain ⟨v, r, rp⟩ := S.vars x kd t a
    refine ⟨v, ?_, Rep.kp k (fun a q => (S.dr a q).2.1) t v rp⟩
    cases kd with
    | «local» => obtain ⟨m, a, b⟩ := r; exact ⟨m, Heap.Ns.one a fun o e => k _ o (S.cx.dne _ (.inl rfl)) e, b⟩
    | cell => obtain ⟨cc, a, o, b, b'⟩ := r; exact ⟨cc, a, o, k _ o (S.cx.dne _ (.inr ⟨_, mem_of_lookup a⟩)) b, b'⟩
    | free => obtain ⟨cc, a, o, b, b'⟩ := r; exact ⟨cc, a, o, k _ o (S.cx.dne _ (.inr ⟨_, mem_of_lookup a⟩)) b, b'⟩
    | _ => exact r.elim
  dr := fun a q => ⟨dr a q, (S.dr a q).2⟩
  live := fun b hb => by
    by_cases q : c.d = some b
    · obtain ⟨_, f, ⟨o, es, ep, ho, r⟩, x2⟩ := dr b q
      exact ⟨o, ho⟩
    · obtain ⟨o, e⟩ := S.live b hb
      exact ⟨o, k b o q e⟩
  cx := S.cx
  ok := S.ok
  gl := S.gl
  room := S.room
theorem ESt.grow (S : ESt c ns σ D h) (k : ∀ b o, h.get? b = some o → h'.get? b = some o) : ESt c ns σ D h' :=
  S.next (Kp.all k) fun a q => (S.dr a q).1.keep fun o e => k a o e
theorem ESt.push (S : ESt c ns σ D h) (o : Obj) : ESt c ns σ D (h.push o) := S.grow fun _ _ e => Heap.get?_push_of_some o e
theorem ESt.notX (S : ESt c ns σ D h) {b : Addr} (e : h.get? b = none) : ¬ c.X b := fun hb => by
  obtain ⟨o, q⟩ := S.live b hb
  exact noS (e) q
theorem ESt.sizeX (S : ESt c ns σ D h) : ¬ c.X h.objs.size := S.notX (Heap.get?_none_of_le (Nat.le_refl _))
theorem ESt.up (S : ESt c ns σ D h) (k : Kp c.d h h') {t : PV} {v : Value} (r : Rep c.X h t v) : Rep c.X h' t v := Rep.kp k (fun a q => (S.dr a q).2.1) t v r
theorem ESt.ups (S : ESt c ns σ D h) (k : Kp c.d h h') {t : List PV} {v : List Value} (r : Reps c.X h t v) : Reps c.X h' t v := Reps.kp k (fun a q => (S.dr a q).2.1) t v r
end

abbrev ECont (c : Cx) (ns : Names) (σ : Vals) (h : Heap) (P : PV → Int × Int → Heap → Value → Prop) (Q : Value → Shared → Prop) (s : Shared) : Prop :=
  ∀ t D' v h' tk, P t D' h' v → ESt c ns σ D' h' → Kp c.d h h' → Rep c.X h' t v → Q v { s with heap := h', toks := tk }

/-- the expression e is reckoned in the state σ, D, and gives what Post says -/
noncomputable def HE (c : Cx) (ns : Names) (σ : Vals) (D : Int × Int) (e : Expr) (Post : PV → Int × Int → Prop) : Prop :=
  ∀ (s : Shared) (Q : Value → Shared → Prop) (E : Value → Shared → Prop), ESt c ns σ D s.heap →
    (∀ t D' v h' tk, Post t D' → ESt c ns σ D' h' → Kp c.d s.heap h' → Rep c.X h' t v → Q v { s with heap := h', toks := tk }) →
    wpAny (model c.prog c.w) c.A (eval e c.env) Q E s

/-- the same, and what is given is new -/
noncomputable def HN (c : Cx) (ns : Names) (σ : Vals) (D : Int × Int) (e : Expr) (Post : PV → Int × Int → Prop) : Prop :=
  ∀ (s : Shared) (Q : Value → Shared → Prop) (E : Value → Shared → Prop), ESt c ns σ D s.heap →
    (∀ t D' a h' tk, Post t D' → ESt c ns σ D' h' → Kp c.d s.heap h' → s.heap.get? a = none → Rep c.X h' t (.ref a) → Q (.ref a) { s with heap := h', toks := tk }) →
    wpAny (model c.prog c.w) c.A (eval e c.env) Q E s

/-- a test -/
noncomputable def HT (c : Cx) (ns : Names) (σ : Vals) (D : Int × Int) (e : Expr) (Post : Bool → Int × Int → Prop) : Prop :=
  ∀ (s : Shared) (Q : Bool → Shared → Prop) (E : Value → Shared → Prop), ESt c ns σ D s.heap →
    (∀ b D' h' tk, Post b D' → ESt c ns σ D' h' → Kp c.d s.heap h' → Q b { s with heap := h', toks := tk }) →
    wpAny (model c.prog c.w) c.A (isTrue e c.env (eval e c.env)) Q E s

/-- several, from left to right -/
noncomputable def HEs (c : Cx) (ns : Names) (σ : Vals) (D : Int × Int) (es : List Expr) (Post : List PV → Int × Int → Prop) : Prop :=
  ∀ (s : Shared) (pos : Pos) (Q : List Value → Shared → Prop) (E : Value → Shared → Prop), ESt c ns σ D s.heap →
    (∀ ts D' vs h' tk, Post ts D' → ESt c ns σ D' h' → Kp c.d s.heap h' → Reps c.X h' ts vs → Q vs { s with heap := h', toks := tk }) →
    wpAny (model c.prog c.w) c.A (spliced (backTo pos (starEach es c.env))) Q E s ∧ (backTo pos (starEach es c.env)).any (·.1) = false

section
variable {c : Cx} {ns : Names} {σ : Vals} {D : Int × Int} {e l r : Expr} {Post Post' : PV → Int × Int → Prop}

theorem HE.mono (H : HE c ns σ D e Post') (k : ∀ t D, Post' t D → Post t D) : HE c ns σ D e Post :=
  fun s Q E S K => H s Q E S fun t D' v h' tk p => K t D' v h' tk (k t D' p)
theorem HN.mono (H : HN c ns σ D e Post') (k : ∀ t D, Post' t D → Post t D) : HN c ns σ D e Post :=
  fun s Q E S K => H s Q E S fun t D' v h' tk p => K t D' v h' tk (k t D' p)
theorem HN.he (H : HN c ns σ D e Post) : HE c ns σ D e Post :=
  fun s Q E S K => H s Q E S fun t D' a h' tk p S' k _ r => K t D' _ h' tk p S' k r
theorem HT.mono {P P' : Bool → Int × Int → Prop} (H : HT c ns σ D e P') (k : ∀ t D, P' t D → P t D) : HT c ns σ D e P :=
  fun s Q E S K => H s Q E S fun b D' h' tk p => K b D' h' tk (k b D' p)

theorem rep_int {X : Addr → Prop} {h : Heap} {i : Int} {t : Tok} : Rep X h (.int i) (.int i t) := ⟨t, rfl⟩
theorem rep_bool {X : Addr → Prop} {h : Heap} {b : Bool} : Rep X h (.bool b) (.bool b) := rfl
theorem rep_list {X : Addr → Prop} {h : Heap} {a : Addr} {l : List PV} {vs : List Value} (x : ¬ X a) (p : h.PlainList a vs.toArray) (r : Reps X h l vs) : Rep X h (.list l) (.ref a) := ⟨a, vs, rfl, x, p, r⟩
theorem rep_tup {X : Addr → Prop} {h : Heap} {a : Addr} {l : List PV} {vs : List Value} (x : ¬ X a) (p : h.IsTuple a vs.toArray) (r : Reps X h l vs) : Rep X h (.tup l) (.ref a) := ⟨a, vs, rfl, x, p, r⟩

theorem he_name {x : Str} {k : NameKind} {t : PV} {pos : Pos} (a : At ns σ x k t) (p : Post t D) (hd : (x == ("__debug__" : Str)) = false := by decide) (hc : (x == ("__classdict__" : Str)) = false := by decide) : HE c ns σ D (.Name x pos) Post := by
  intro s Q E S K
  obtain ⟨v, rd, rp⟩ := S.vars x k t a
  have kd := S.ok.kinds x k a.mem
  have fin : Q v s := K t D v s.heap s.toks p S Kp.refl rp
  refine wpAny_Name ?_ hd
  cases k with
  | «local» => obtain ⟨m, hn, hv⟩ := rd; exact wpAny_loadName_local S.ok.kind kd hn hv fin
  | cell => obtain ⟨cc, hn, hv⟩ := rd; exact wpAny_loadName_cell S.ok.kind kd hn hv fin
  | free => obtain ⟨cc, hn, hv⟩ := rd; exact wpAny_loadName_free S.ok.kind kd hn hv fin hc
  | _ => exact rd.elim

theorem he_int {i : Int} {k : Nat} {pos : Pos} (p : Post (.int i) D) : HE c ns σ D (.Constant (.int i) k pos) Post := by
  intro s Q E S K
  exact wpAny_Constant_int (K (.int i) D _ s.heap _ p S Kp.refl ⟨_, rfl⟩)
theorem he_bool {b : Bool} {k : Nat} {pos : Pos} (p : Post (.bool b) D) : HE c ns σ D (.Constant (.bool b) k pos) Post := by
  intro s Q E S K
  exact Constant_bool (K (.bool b) D _ s.heap s.toks p S Kp.refl rfl)

/-- two, one behind the other: what the first gave still stands -/
theorem he_two {l r : Expr} {P : PV → PV → Int × Int → Prop} (H : HE c ns σ D l fun a D₁ => HE c ns σ D₁ r fun b D₂ => P a b D₂)
    {s : Shared} {Q : Value → Value → Shared → Prop} {E : Value → Shared → Prop} (S : ESt c ns σ D s.heap)
    (K : ∀ a b D' u v h' tk, P a b D' → ESt c ns σ D' h' → Kp c.d s.heap h' → Rep c.X h' a u → Rep c.X h' b v → Q u v { s with heap := h', toks := tk }) :
    wpAny (model c.prog c.w) c.A (eval l c.env) (fun u s₁ => wpAny (model c.prog c.w) c.A (eval r c.env) (fun v s₂ => Q u v s₂) E s₁) E s :=
  H s _ E S fun a D₁ u h₁ tk₁ H₂ S₁ k₁ r₁ => H₂ _ _ E S₁ fun b D₂ v h₂ tk₂ p S₂ k₂ r₂ => K a b D₂ u v h₂ tk₂ p S₂ (k₁.trans k₂) (S₁.up k₂ r₁) r₂

/-- arithmetic of ints -/
structure IntOp (c : Cx) (op : Operator) (x y z : Int) : Prop where
  use : ∀ {s : Shared} {t u : Tok} {Q : Value → Shared → Prop} {E : Value → Shared → Prop}, (∀ tk t', Q (.int z t') { s with toks := tk }) → wpAny (model c.prog c.w) c.A (binaryOp op (.int x t) (.int y u)) Q E s

inductive BinP (c : Cx) (op : Operator) (Post : PV → Int × Int → Prop) (a b : PV) (D : Int × Int) : Prop
  | mk (x y z : Int) (ha : a = .int x) (hb : b = .int y) (o : IntOp c op x y z) (p : Post (.int z) D) : BinP c op Post a b D
inductive NegP (Post : PV → Int × Int → Prop) (a : PV) (D : Int × Int) : Prop
  | mk (x : Int) (ha : a = .int x) (p : Post (.int (-x)) D) : NegP Post a D
theorem he_binop {op : Operator} {pos : Pos}
    (H : HE c ns σ D l fun a D₁ => HE c ns σ D₁ r (BinP c op Post a)) :
    HE c ns σ D (.BinOp l op r pos) Post := by
  intro s Q E S K
  refine wpAny_BinOp (he_two H S (Q := fun u v s₂ => wpAny (model c.prog c.w) c.A (binaryOp op u v) Q E s₂) fun a b D' u v h' tk p S' k r₁ r₂ => ?_)
  obtain ⟨x, y, z, rfl, rfl, ho, p⟩ := p
  obtain ⟨t, rfl⟩ := r₁
  obtain ⟨t', rfl⟩ := r₂
  with_reducible exact ho.use fun tk t' => K (.int z) D' _ h' _ p S' k rep_int

theorem io_add {x y : Int} : IntOp c .Add x y (x + y) := ⟨fun h => by with_reducible exact PyProof.Rows.add_int (h _ _)⟩
theorem io_sub {x y : Int} : IntOp c .Sub x y (x - y) := ⟨fun h => by with_reducible exact PyProof.Rows.sub_int' (h _ _)⟩
theorem io_mul {x y : Int} (hm : IntMulOk x y) : IntOp c .Mult x y (x * y) := ⟨fun h => by with_reducible exact PyProof.Rows.mul_int (h _ _) hm⟩
theorem io_mod {x y : Int} (hy : y ≠ 0) : IntOp c .Mod x y (x.fmod y) := ⟨fun h => by with_reducible exact PyProof.Rows.mod_int' hy (h _ _)⟩
theorem io_div {x y : Int} (hy : y ≠ 0) (hp : Builtin.divisionGoesByPylong x y = false) : IntOp c .FloorDiv x y (x.fdiv y) := ⟨fun h => by with_reducible exact PyProof.Rows.floordiv_int hy (h _ _) (Or.inl hp)⟩
theorem io_pow {x y : Int} (hn : 0 ≤ y) (hsz : (Builtin.Int.intBits x : Int) * y ≤ 2 ^ 27) : IntOp c .Pow x y (x ^ y.toNat) := ⟨fun h => by with_reducible exact PyProof.Rows.pow_int hn hsz (h _ _)⟩

theorem he_neg {pos : Pos} (H : HE c ns σ D e (NegP Post)) : HE c ns σ D (.UnaryOp .USub e pos) Post := by
  intro s Q E S K
  refine UnaryOp_ (H s _ E S fun t D' v h' tk p S' k rp => ?_)
  obtain ⟨x, rfl, p⟩ := p
  obtain ⟨t', rfl⟩ := rp
  with_reducible exact PySem.P.neg_int (K _ D' _ h' _ p S' k rep_int)

theorem he_ifexp {t b o : Expr} {pos : Pos} (H : HT c ns σ D t fun q D₁ => if q then HE c ns σ D₁ b Post else HE c ns σ D₁ o Post) : HE c ns σ D (.IfExp t b o pos) Post := by
  intro s Q E S K
  refine IfExp_ (H s _ E S fun q D' h' tk p S' k => ?_)
  cases q with
  | true => exact p _ _ E S' fun t D'' v h'' tk'' p S'' k' r => K t D'' v h'' tk'' p S'' (k.trans k') r
  | false => exact p _ _ E S' fun t D'' v h'' tk'' p S'' k' r => K t D'' v h'' tk'' p S'' (k.trans k') r
end
end Mine
namespace Mine

section
variable {c : Cx} {ns : Names} {σ : Vals} {D : Int × Int} {e l r : Expr} {Post Post' : PV → Int × Int → Prop}

theorem Room.u {A : Around} {n : Nat} (R : Room A n) : A.units + 64 < cLine := by have := R.2.2; (exact zq523 this)

/-- a comparison of what a and b stand for gives r -/
structure CmpOk (c : Cx) (op : CmpOp) (a b : PV) (r : Bool) : Prop where
  use : ∀ {s : Shared} {u v : Value} {Q : Value → Shared → Prop} {E : Value → Shared → Prop}, Room c.A 0 → Rep c.X s.heap a u → Rep c.X s.heap b v → Q (.bool r) s → wpAny (model c.prog c.w) c.A (compareOp op u v) Q E s

theorem co_eq {x y : Int} : CmpOk c .Eq (.int x) (.int y) (decide (x = y)) := ⟨fun _ ⟨_, e⟩ ⟨_, e'⟩ h => by subst e; subst e'; with_reducible exact PyProof.Rows.eq_int (by rw [show (x == y) = decide (x = y) from rfl]; exact h)⟩
theorem co_ne {x y : Int} : CmpOk c .NotEq (.int x) (.int y) (!decide (x = y)) := ⟨fun _ ⟨_, e⟩ ⟨_, e'⟩ h => by subst e; subst e'; with_reducible exact PyProof.Rows.ne_int (by rw [show (x != y) = !decide (x = y) from rfl]; exact h)⟩
theorem co_lt {x y : Int} : CmpOk c .Lt (.int x) (.int y) (decide (x < y)) := ⟨fun _ ⟨_, e⟩ ⟨_, e'⟩ h => by subst e; subst e'; with_reducible exact PyProof.Rows.lt_int h⟩
theorem co_le {x y : Int} : CmpOk c .LtE (.int x) (.int y) (decide (x ≤ y)) := ⟨fun _ ⟨_, e⟩ ⟨_, e'⟩ h => by subst e; subst e'; with_reducible exact PySem.P.le_int h⟩
theorem co_gt {x y : Int} : CmpOk c .Gt (.int x) (.int y) (decide (y < x)) := ⟨fun _ ⟨_, e⟩ ⟨_, e'⟩ h => by subst e; subst e'; with_reducible exact PyProof.Rows.gt_int h⟩
theorem co_ge {x y : Int} : CmpOk c .GtE (.int x) (.int y) (decide (y ≤ x)) := ⟨fun _ ⟨_, e⟩ ⟨_, e'⟩ h => by subst e; subst e'; with_reducible exact PySem.P.ge_int h⟩
theorem co_eqb {x y : Bool} : CmpOk c .Eq (.bool x) (.bool y) (x == y) := ⟨fun _ e e' h => by
  have e : _ = _ := e
  have e' : _ = _ := e'
  subst e; subst e'; with_reducible exact PyProof.Rows.eq_bool h⟩
theorem co_neb {x y : Bool} : CmpOk c .NotEq (.bool x) (.bool y) (x != y) := ⟨fun _ e e' h => by
  have e : _ = _ := e
  have e' : _ = _ := e'
  subst e; subst e'; with_reducible exact PyProof.Rows.ne_bool h⟩

/-- lists of ints -/
abbrev il (l : List Int) : List PV := l.map .int
theorem intsAre_of {X : Addr → Prop} {h : Heap} : ∀ {l : List Int} {vs : List Value}, Reps X h (il l) vs → IntsAre vs l
  | [], vs, r => by
    have r : vs = [] := r
    subst r; exact .nil
  | i :: l, vs, r => by
    obtain ⟨v, r', rfl, ⟨t, rfl⟩, h2⟩ := (show ∃ v r', vs = v :: r' ∧ Rep X h (.int i) v ∧ Reps X h (il l) r' from r)
    exact .cons i t (intsAre_of h2)
theorem reps_ints {X : Addr → Prop} {h : Heap} : ∀ {l : List Int} {vs : List Value}, IntsAre vs l → Reps X h (il l) vs
  | _, _, .nil => Reps.nil
  | _, _, .cons i t r => Reps.cons ⟨t, rfl⟩ (reps_ints r)

theorem co_eqL {x y : List Int} : CmpOk c .Eq (.list (il x)) (.list (il y)) (decide (x = y)) :=
  ⟨fun R ⟨a, vs, e, _, p, r⟩ ⟨a', vs', e', _, p', r'⟩ h => by
    subst e; subst e'
    with_reducible exact PySem.W.eq_intsK p.isList (intsAre_of r) p'.isList (intsAre_of r') R.u h⟩
theorem co_neL {x y : List Int} : CmpOk c .NotEq (.list (il x)) (.list (il y)) (!decide (x = y)) :=
  ⟨fun R ⟨a, vs, e, _, p, r⟩ ⟨a', vs', e', _, p', r'⟩ h => by
    subst e; subst e'
    with_reducible exact PySem.W.ne_intsK p.isList (intsAre_of r) p'.isList (intsAre_of r') R.u h⟩

inductive CmpP (c : Cx) (op : CmpOp) (P : Bool → Int × Int → Prop) (a b : PV) (D : Int × Int) : Prop
  | mk (q : Bool) (o : CmpOk c op a b q) (p : P q D) : CmpP c op P a b D
inductive BoolP (P : Bool → Int × Int → Prop) (t : PV) (D : Int × Int) : Prop
  | mk (b : Bool) (e : t = .bool b) (p : P b D) : BoolP P t D
/-- an item -/
noncomputable def idx (l : List PV) (i : Int) : Option PV := if 0 ≤ i then l[i.toNat]? else if -(l.length : Int) ≤ i then l[(i + l.length).toNat]? else none
inductive ItemP (Post : PV → Int × Int → Prop) (a b : PV) (D : Int × Int) : Prop
  | mk (l : List PV) (i : Int) (t : PV) (ha : a = .list l) (hl : l.length ≤ sizeLine) (hb : b = .int i) (e : idx l i = some t) (p : Post t D) : ItemP Post a b D
theorem he_cmp {op : CmpOp} {pos : Pos}
    (H : HE c ns σ D l fun a D₁ => HE c ns σ D₁ r (CmpP c op (fun q D => Post (.bool q) D) a)) (hm : behindInMarks op r = false := by with_unfolding_all rfl) :
    HE c ns σ D (.Compare l [op] [r] pos) Post := by
  intro s Q E S K
  refine wpAny_Compare1 (he_two H S (Q := fun u v s₂ => wpAny (model c.prog c.w) c.A (compareOp op u v) Q E s₂) fun a b D' u v h' tk p S' k r₁ r₂ => ?_) hm
  obtain ⟨q, co, p⟩ := p
  with_reducible exact co.use S.room r₁ r₂ (K (.bool q) D' _ h' _ p S' k rep_bool)
theorem ht_cmp {op : CmpOp} {pos : Pos} {P : Bool → Int × Int → Prop}
    (H : HE c ns σ D l fun a D₁ => HE c ns σ D₁ r (CmpP c op P a)) (hm : behindInMarks op r = false := by with_unfolding_all rfl) :
    HT c ns σ D (.Compare l [op] [r] pos) P := by
  intro s Q E S K
  refine wpAny_isTrue_Compare1 (he_two H S (Q := fun u v s₂ => wpAny (model c.prog c.w) c.A (compareOp op u v) (fun c' s₃ => wpAny (model c.prog c.w) c.A (truthy c') Q E s₃) E s₂) fun a b D' u v h' tk p S' k r₁ r₂ => ?_) hm
  obtain ⟨q, co, p⟩ := p
  with_reducible exact co.use S.room r₁ r₂ (wpAny_truthy_bool (K q D' h' _ p S' k))

theorem ht_not {x : Expr} {pos : Pos} {P : Bool → Int × Int → Prop} (H : HT c ns σ D x fun b D' => P (!b) D') : HT c ns σ D (.UnaryOp .Not x pos) P :=
  fun s Q E S K => isTrue_not (H s _ E S fun b D' h' tk p S' k => K _ D' h' tk p S' k)
theorem ht_and {x y : Expr} {pos : Pos} {P : Bool → Int × Int → Prop} (H : HT c ns σ D x fun b D' => if b then HT c ns σ D' y P else P false D') : HT c ns σ D (.BoolOp .And [x, y] pos) P :=
  fun s Q E S K => isTrue_and (H s _ E S fun b D' h' tk p S' k => by
    cases b with
    | false => exact K false D' h' tk p S' k
    | true =>
      refine isTrue_and (p _ _ E S' fun b D'' h'' tk'' p' S'' k' => ?_)
      cases b with
      | false => exact K false D'' h'' tk'' p' S'' (k.trans k')
      | true => exact isTrue_and_nil (K true D'' h'' tk'' p' S'' (k.trans k')))
theorem ht_or {x y : Expr} {pos : Pos} {P : Bool → Int × Int → Prop} (H : HT c ns σ D x fun b D' => if b then P true D' else HT c ns σ D' y P) : HT c ns σ D (.BoolOp .Or [x, y] pos) P :=
  fun s Q E S K => isTrue_or (H s _ E S fun b D' h' tk p S' k => by
    cases b with
    | true => exact K true D' h' tk p S' k
    | false =>
      refine isTrue_or (p _ _ E S' fun b D'' h'' tk'' p' S'' k' => ?_)
      cases b with
      | true => exact K true D'' h'' tk'' p' S'' (k.trans k')
      | false => exact isTrue_or_nil (K false D'' h'' tk'' p' S'' (k.trans k')))
/-- a test that is a value -/
theorem ht_call {f : Str} {p : Pos} {args : List Expr} {pos : Pos} {P : Bool → Int × Int → Prop} (H : HE c ns σ D (.Call (.Name f p) args [] pos) (BoolP P)) : HT c ns σ D (.Call (.Name f p) args [] pos) P :=
  fun s Q E S K => isTrue_plain (H s _ E S fun t D' v h' tk p S' k r => by
    obtain ⟨b, rfl, p⟩ := p
    have r : v = .bool b := r
    subst r
    exact wpAny_truthy_bool (K b D' h' tk p S' k))

theorem he_and {x y : Expr} {rest : List Expr} {pos : Pos} (H : HE c ns σ D x (BoolP fun b D' => if b then HE c ns σ D' (.BoolOp .And (y :: rest) pos) Post else Post (.bool false) D')) :
    HE c ns σ D (.BoolOp .And (x :: y :: rest) pos) Post :=
  fun s Q E S K => BoolOp_and (H s _ E S fun t D' v h' tk p S' k r => by
    obtain ⟨b, rfl, p⟩ := p
    have r : v = .bool b := r
    subst r
    refine wpAny_truthy_bool ?_
    cases b with
    | false => exact K (.bool false) D' _ h' tk p S' k rep_bool
    | true => exact p _ _ E S' fun t D'' v h'' tk'' p'' S'' k' r => K t D'' v h'' tk'' p'' S'' (k.trans k') r)
theorem he_and1 {x : Expr} {pos : Pos} (H : HE c ns σ D x Post) : HE c ns σ D (.BoolOp .And [x] pos) Post :=
  fun s Q E S K => BoolOp_one (H s Q E S K)

/-- 0 <= x < y, as a chain of two -/
theorem ht_chain {x y z : Expr} {op₁ op₂ : CmpOp} {pos : Pos} {P : Bool → Int × Int → Prop}
    (H : HE c ns σ D x fun a D₁ => HE c ns σ D₁ y fun b D₂ => CmpP c op₁ (fun q D₂ => if q then HE c ns σ D₂ z (CmpP c op₂ P b) else P false D₂) a b D₂)
    (hm : lastMarks [op₁, op₂] [y, z] = false := by with_unfolding_all rfl) : HT c ns σ D (.Compare x [op₁, op₂] [y, z] pos) P := by
  intro s Q E S K
  refine isTrue_chain (H s _ E S fun a D₁ u h₁ tk₁ H₂ S₁ k₁ r₁ => ?_) hm
  refine test_link (H₂ _ _ E S₁ fun b D₂ v h₂ tk₂ p S₂ k₂ r₂ => ?_)
  obtain ⟨q, co, p⟩ := p
  have S₂' := S₂
  have fin : wpAny (model c.prog c.w) c.A (truthy (.bool q)) (fun t s₃ => if t then wpAny (model c.prog c.w) c.A (testChain pos v [op₂] (eval z c.env :: evalEach [] c.env)) Q E s₃ else Q false s₃) E { s with heap := h₂, toks := tk₂ } := by
    refine wpAny_truthy_bool ?_
    cases q with
    | false => exact K false D₂ h₂ tk₂ p S₂ (k₁.trans k₂)
    | true =>
      refine test_last (p _ _ E S₂ fun d D₃ w h₃ tk₃ p' S₃ k₃ r₃ => ?_)
      obtain ⟨q', co', p'⟩ := p'
      with_reducible exact co'.use S.room (S₂'.up k₃ r₂) r₃ (wpAny_truthy_bool (K q' D₃ h₃ _ p' S₃ ((k₁.trans k₂).trans k₃)))
  with_reducible exact co.use S.room (S₁.up k₂ r₁) r₂ fin


theorem getItem_rep {l : List PV} {i : Int} {t : PV} (e : idx l i = some t) {s : Shared} {o : Value} {u : Tok} {Q : Value → Shared → Prop} {E : Value → Shared → Prop} (ro : Rep c.X s.heap (.list l) o) (hs : l.length ≤ sizeLine)
    (h : ∀ v, Rep c.X s.heap t v → Q v s) : wpAny (model c.prog c.w) c.A (getItem o (.int i u)) Q E s ∧ s.TypeIs o "list" := by
  obtain ⟨a, vs, rfl, _, p, r⟩ := ro
  rw [sizeLine_eq] at hs
  refine ⟨?_, p.isList.typeIs⟩
  unfold idx at e
  split at e
  · rename_i h0
    obtain ⟨v, hv, rv⟩ := r.at e
    have hi := (List.getElem?_eq_some_iff.mp e).1
    exact wpAny_getItem_list p.isList h0 (by omega) (by simpa using hv) (h v rv)
  · rename_i h0
    split at e
    · rename_i h1
      obtain ⟨v, hv, rv⟩ := r.at e
      have hl := r.len
      exact wpAny_getItem_list_neg p.isList (by (exact zq67 h0)) (by simp; (exact zq104 h1 hl)) (by omega) (by simpa [hl] using hv) (h v rv)
    · cases e

theorem wpAny_letTemp {b : Expr} {o r : Value} {s : Shared} {Q : Unit → Shared → Prop} {E : Value → Shared → Prop} (h : Q () s) : wpAny (model c.prog c.w) c.A (letTemporaryGo b o r) Q E s := by
  unfold letTemporaryGo
  split
  · exact wpAny_pure h
  · exact wpAny_bind (wpAny_holding (wpAny_runValue (codeAny_builtin entry_let_go (show wpAny _ _ (ret .none) _ _ s from wpAny_pure (wpAny_pure h)))))
  · exact wpAny_pure h

theorem subTail {b sl : Expr} {o i : Value} {T id : String} {ops : List Value} {s : Shared} {Q : Value → Shared → Prop} {E : Value → Shared → Prop} (hT : s.TypeIs o T)
    (hl : typeLookup (.type T) "__getitem__" = pure (some (.builtin id))) (g : wpAny (model c.prog c.w) c.A (getItem o i) Q E s)
    (hs : subscripted sl false o i = operate ops (getItem o i)) : wpAny (model c.prog c.w) c.A (subscriptTail b sl o i) Q E s := by
  unfold subscriptTail
  refine wpAny_bind ?_
  rw [getitemInPython_of_ne hT.not_modules]
  refine wpAny_bind (wpAny_specialOf hT hl ?_)
  have fin : wpAny (model c.prog c.w) c.A (subscripted sl false o i) (fun r s₃ => wpAny (model c.prog c.w) c.A (letTemporaryGo b o r >>= fun _ => pure r) Q E s₃) E s := by
    rw [hs]
    exact wpAny_operating (wpAny_mono g (fun r s₃ h₃ => wpAny_bind (wpAny_letTemp (wpAny_pure h₃))) fun _ _ x => x)
  first
    | exact wpAny_pure (wpAny_bind fin)
    | exact wpAny_bind (wpAny_pure (wpAny_bind fin))
    | exact wpAny_bind fin

theorem he_item {b sl : Expr} {pos : Pos}
    (H : HE c ns σ D b fun a D₁ => HE c ns σ D₁ sl (ItemP Post a))
    (hs : ∀ o i, subscripted sl false o i = operate [o, i] (getItem o i) := by intro _ _; with_unfolding_all rfl) :
    HE c ns σ D (.Subscript b sl pos) Post := by
  intro s Q E S K
  refine Subscript_ (he_two H S (Q := fun u v s₂ => wpAny (model c.prog c.w) c.A (subscriptTail b sl u v) Q E s₂) fun a b' D' u v h' tk p S' k r₁ r₂ => ?_)
  obtain ⟨l, i, t, rfl, hl, rfl, e, p⟩ := p
  obtain ⟨t', rfl⟩ := r₂
  obtain ⟨g, T⟩ := getItem_rep (c := c) (E := E) (u := t') e (s := { s with heap := h', toks := tk }) (Q := Q) r₁ hl fun v rv => K t D' v h' _ p S' k rv
  exact subTail T slot_list_getitem.lookup g (hs _ _)

/-- a slice: its parts, each an int or nothing -/
inductive HPart (c : Cx) (ns : Names) (σ : Vals) (D : Int × Int) : Option Expr → Option Int → Prop
  | none : HPart c ns σ D none none
  | some {e : Expr} {i : Int} (H : HE c ns σ D e fun t D' => t = .int i ∧ D' = D) : HPart c ns σ D (some e) (some i)

theorem HPart.go {o : Option Expr} {i : Option Int} (H : HPart c ns σ D o i) {s : Shared} {Q : Value → Shared → Prop} {E : Value → Shared → Prop} (S : ESt c ns σ D s.heap)
    (K : ∀ v h' tk, IsPart v i → ESt c ns σ D h' → Kp c.d s.heap h' → Q v { s with heap := h', toks := tk }) :
    wpAny (model c.prog c.w) c.A (valueOrNone (evalOpt o c.env)) Q E s := by
  cases H with
  | none => exact wpAny_pure (K _ s.heap s.toks .none S Kp.refl)
  | some H =>
    show wpAny _ _ (eval _ c.env) Q E s
    refine H s Q E S fun t D' v h' tk p S' k r => ?_
    obtain ⟨rfl, rfl⟩ := p
    obtain ⟨t', rfl⟩ := r
    exact K _ h' tk (.int _ _) S' k

theorem hn_slice {b : Expr} {lo hi st : Option Expr} {p pos : Pos} {i j k : Option Int} {L' : List PV → List PV} {ops : Value → Value → List Value}
    (H : HE c ns σ D b fun a D₁ => ∃ l, a = .list l ∧ l.length ≤ sizeLine ∧ HPart c ns σ D₁ lo i ∧ HPart c ns σ D₁ hi j ∧ HPart c ns σ D₁ st k ∧ Post (.list (L' l)) D₁)
    (h0 : k ≠ some 0)
    (e : ∀ (X : Addr → Prop) (h : Heap) (l : List PV) (vs : List Value), Reps X h l vs → ∃ ws, slicePick vs.toArray i j k = ws.toArray ∧ Reps X h (L' l) ws)
    (hs : ∀ o i, subscripted (.Slice lo hi st p) false o i = operate (ops o i) (getItem o i)) :
    HN c ns σ D (.Subscript b (.Slice lo hi st p) pos) Post := by
  intro s Q E S K
  refine Subscript_ (H s _ E S fun t D₁ v h₁ tk₁ pp S₁ k₁ r₁ => ?_)
  obtain ⟨l, rfl, hl, Hlo, Hhi, Hst, post⟩ := pp
  show wpAny _ _ (valueOrNone (evalOpt lo c.env) >>= fun l => _) _ _ _
  refine wpAny_bind (Hlo.go S₁ fun v₁ h₂ tk₂ p₁ S₂ k₂ => ?_)
  refine wpAny_bind (wpAny_holding (Hhi.go S₂ fun v₂ h₃ tk₃ p₂ S₃ k₃ => ?_))
  refine wpAny_bind (wpAny_holding (Hst.go S₃ fun v₃ h₄ tk₄ p₃ S₄ k₄ => ?_))
  refine wpAny_newObj_type ?_
  have r₄ := S₁.up ((k₂.trans k₃).trans k₄) r₁
  have kk := k₁.trans ((k₂.trans k₃).trans k₄)
  obtain ⟨a, vs, rfl, hx, pl, rr⟩ := r₄
  obtain ⟨ws, ew, rw'⟩ := e _ _ _ _ rr
  have pl' : (h₄.push { cls := .type "slice", data := .fields #[v₁, v₂, v₃] }).PlainList a vs.toArray := pl.at fun o e => Heap.get?_push_of_some _ e
  refine subTail pl'.isList.typeIs slot_list_getitem.lookup (wpAny_getItem_list_slice pl'.isList (Heap.IsSliceOf.new ..) p₁ p₂ p₃ h0 ?_ (by simpa [rr.len] using hl)) (hs _ _)
  have kp : ∀ b o, h₄.get? b = some o → ((h₄.push { cls := .type "slice", data := .fields #[v₁, v₂, v₃] }).push { cls := .type "list", data := .seq (slicePick vs.toArray i j k) }).get? b = some o := fun b o e => Heap.get?_push_of_some _ (Heap.get?_push_of_some _ e)
  refine K (.list (L' l)) D₁ _ _ _ post (S₄.grow kp) (kk.trans (Kp.all kp)) ?_ (rep_list ?_ ⟨0, ?_⟩ (Reps.keep (fun b o hx e => ⟨hx, kp b o e⟩) _ _ rw'))
  · cases q : s.heap.get? (h₄.push { cls := .type "slice", data := .fields #[v₁, v₂, v₃] }).objs.size with
    | none => rfl
    | some o =>
      exfalso
      by_cases hd : c.d = some (h₄.push { cls := .type "slice", data := .fields #[v₁, v₂, v₃] }).objs.size
      · obtain ⟨_, f, ⟨o, es, ep, ho, _⟩, _⟩ := (S₄.dr _ hd).1
        have := Heap.lt_size ho
        rw [Heap.size_push] at this; exact Nat.lt_irrefl _ (Nat.lt_of_succ_lt this)
      · have := Heap.lt_size (kk _ _ hd q)
        rw [Heap.size_push] at this; exact Nat.lt_irrefl _ (Nat.lt_of_succ_lt this)
  · intro hX
    obtain ⟨o, q⟩ := S₄.live _ hX
    have := Heap.lt_size q
    rw [Heap.size_push] at this; exact Nat.lt_irrefl _ (Nat.lt_of_succ_lt this)
  · rw [← ew]; exact Heap.get?_push_size _ rfl
end
end Mine
namespace Mine

/-- several, from left to right -/
noncomputable def HLs (c : Cx) (ns : Names) (σ : Vals) (D : Int × Int) (es : List Expr) (Post : List PV → Int × Int → Prop) : Prop :=
  ∀ (s : Shared) (pos : Pos) (Q : List Value → Shared → Prop) (E : Value → Shared → Prop), ESt c ns σ D s.heap →
    (∀ ts D' vs h' tk, Post ts D' → ESt c ns σ D' h' → Kp c.d s.heap h' → Reps c.X h' ts vs → Q vs { s with heap := h', toks := tk }) →
    wpAny (model c.prog c.w) c.A (spliced (backTo pos (starEach es c.env))) Q E s

/-- no item bears a star -/
noncomputable def Plain : List Expr → Prop
  | [] => True
  | e :: r => (∀ env, starEach (e :: r) env = (false, eval e env) :: starEach r env) ∧ Plain r
theorem Plain.any : ∀ {es : List Expr}, Plain es → ∀ pos env, (backTo pos (starEach es env)).any (·.1) = false
  | [], _, _, _ => rfl
  | e :: r, p, pos, env => by
    rw [p.1 env]
    show (false || (backTo pos (starEach r env)).any (·.1)) = false
    rw [p.2.any pos env]; rfl

section
variable {c : Cx} {ns : Names} {σ : Vals} {D : Int × Int} {e l r : Expr} {Post Post' : PV → Int × Int → Prop}

theorem hls_nil {P : List PV → Int × Int → Prop} (p : P [] D) : HLs c ns σ D [] P := fun s pos Q E S K =>
  spliced_nil (K [] D [] s.heap s.toks p S Kp.refl Reps.nil)
theorem hls_cons {e : Expr} {rest : List Expr} {P : List PV → Int × Int → Prop} (H : HE c ns σ D e fun t D₁ => HLs c ns σ D₁ rest fun ts D₂ => P (t :: ts) D₂)
    (hp : ∀ env, starEach (e :: rest) env = (false, eval e env) :: starEach rest env := by intro _; rfl) : HLs c ns σ D (e :: rest) P := fun s pos Q E S K => by
  rw [hp]
  show wpAny _ _ (spliced ((false, eval e c.env) :: backTo pos (starEach rest c.env))) _ _ _
  refine spliced_cons (H s _ E S fun t D₁ v h₁ tk₁ H₂ S₁ k₁ r₁ => ?_)
  exact H₂ _ pos _ E S₁ fun ts D₂ vs h₂ tk₂ p S₂ k₂ r₂ => K (t :: ts) D₂ (v :: vs) h₂ tk₂ p S₂ (k₁.trans k₂) (Reps.cons (S₁.up k₂ r₁) r₂)

theorem ESt.fresh {h h' : Heap} (S : ESt c ns σ D h') (k : Kp c.d h h') {a : Addr} (ha : h'.get? a = none) : h.get? a = none := by
  cases q : h.get? a with
  | none => rfl
  | some o =>
    exfalso
    by_cases hd : c.d = some a
    · obtain ⟨_, f, ⟨o, es, ep, ho, _⟩, _⟩ := (S.dr _ hd).1
      exact noS (ha) ho
    · have := k _ _ hd q
      exact noS (ha) this
theorem ESt.freshSize {h h' : Heap} (S : ESt c ns σ D h') (k : Kp c.d h h') : h.get? h'.objs.size = none := S.fresh k (Heap.get?_none_of_le (Nat.le_refl _))

/-- a list is laid -/
theorem lay_list {s : Shared} {l : List PV} {vs : List Value} {Q : Value → Shared → Prop} {E : Value → Shared → Prop} (S : ESt c ns σ D s.heap) (r : Reps c.X s.heap l vs) (hs : l.length ≤ sizeLine)
    (K : ∀ h', ESt c ns σ D h' → (∀ b o, s.heap.get? b = some o → h'.get? b = some o) → Rep c.X h' (.list l) (.ref s.heap.objs.size) → Q (.ref s.heap.objs.size) { s with heap := h' }) :
    wpAny (model c.prog c.w) c.A (newList vs) Q E s :=
  wpAny_newObj_type (K _ (S.push _) (fun _ _ e => Heap.get?_push_of_some _ e) (rep_list S.sizeX ⟨0, Heap.get?_push_size _ rfl⟩ (Reps.keep (fun b o hx e => ⟨hx, Heap.get?_push_of_some _ e⟩) _ _ r)))
    (by show vs.toArray.size ≤ sizeLine; rw [List.size_toArray, r.len]; exact hs)

theorem hn_list {es : List Expr} {pos : Pos} (H : HLs c ns σ D es fun ts D' => ts.length ≤ sizeLine ∧ Post (.list ts) D') : HN c ns σ D (.List es pos) Post := fun s Q E S K =>
  List_ (H s pos _ E S fun ts D' vs h' tk p S' k r => lay_list (s := { s with heap := h', toks := tk }) S' r p.1 fun h₂ S₂ k₂ r₂ =>
    K (.list ts) D' _ h₂ tk p.2 S₂ (k.trans (Kp.all k₂)) (S'.freshSize k) r₂)

theorem he_tuple {es : List Expr} {k : Nat} {pos : Pos} (H : HLs c ns σ D es fun ts D' => ts.length ≤ sizeLine ∧ Post (.tup ts) D') : HE c ns σ D (.Tuple es k pos) Post := fun s Q E S K =>
  Tuple_ (H s pos _ E S fun ts D' vs h' tk p S' k r => wpAny_newObj_type
    (K (.tup ts) D' _ _ tk p.2 (S'.push _) (k.trans (Kp.all fun _ _ e => Heap.get?_push_of_some _ e))
      (rep_tup S'.sizeX ⟨_, Heap.get?_push_size _ rfl, rfl, 0, rfl⟩ (Reps.keep (fun b o hx e => ⟨hx, Heap.get?_push_of_some _ e⟩) _ _ r)))
    (by show vs.toArray.size ≤ sizeLine; rw [List.size_toArray, r.len]; exact p.1))

inductive CatP (Post : PV → Int × Int → Prop) (a b : PV) (D : Int × Int) : Prop
  | mk (x y : List PV) (ha : a = .list x) (hb : b = .list y) (hl : x.length + y.length ≤ sizeLine) (p : Post (.list (x ++ y)) D) : CatP Post a b D
/-- + of lists -/
theorem hn_cat {pos : Pos} (H : HE c ns σ D l fun a D₁ => HE c ns σ D₁ r (CatP Post a)) :
    HN c ns σ D (.BinOp l .Add r pos) Post := by
  intro s Q E S K
  refine wpAny_BinOp (he_two H S (Q := fun u v s₂ => wpAny (model c.prog c.w) c.A (binaryOp .Add u v) Q E s₂) fun a b D' u v h' tk p S' k r₁ r₂ => ?_)
  obtain ⟨x, y, rfl, rfl, hs, p⟩ := p
  obtain ⟨a₁, vs, rfl, _, ⟨n, p₁⟩, q₁⟩ := r₁
  obtain ⟨a₂, ws, rfl, _, ⟨n', p₂⟩, q₂⟩ := r₂
  have hz : vs.toArray.size + ws.toArray.size ≤ sizeLine := by simp [q₁.len, q₂.len]; exact hs
  have fin : Q (.ref h'.objs.size) { s with heap := h'.push { cls := .type "list", data := .seq (vs.toArray ++ ws.toArray) }, toks := tk } := by
    refine K (.list (x ++ y)) D' _ _ tk p (S'.push _) (k.trans (Kp.all fun _ _ e => Heap.get?_push_of_some _ e)) (S'.freshSize k)
      (rep_list S'.sizeX (vs := vs ++ ws) ⟨0, ?_⟩ (Reps.keep (fun b o hx e => ⟨hx, Heap.get?_push_of_some _ e⟩) _ _ (q₁.append q₂)))
    rw [Heap.get?_push_size _ rfl]; simp
  with_reducible exact P.add_list (s := { s with heap := h', toks := tk }) p₁ p₂ fin hz

theorem mul_fold (x : Value) : ∀ n : Nat, List.foldl (fun x1 x2 => x1 ++ x2) #[] (List.replicate n (#[x] : Array Value)) = (List.replicate n x).toArray := by
  have gen : ∀ (n : Nat) (acc : Array Value), List.foldl (fun x1 x2 => x1 ++ x2) acc (List.replicate n (#[x] : Array Value)) = acc ++ (List.replicate n x).toArray := by
    intro n
    induction n with
    | zero => intro acc; simp
    | succ n ih => intro acc; rw [List.replicate_succ, List.foldl_cons, ih, List.replicate_succ]; apply Array.ext'; simp
  intro n; rw [gen]; simp

/-- [x] * n -/
theorem hn_mul1 {x : Expr} {lp pos : Pos} (H : HE c ns σ D x fun a D₁ => ∃ i, a = .int i ∧ HE c ns σ D₁ r fun b D₂ => ∃ n : Int, b = .int n ∧ n ≤ 65536 ∧ -65536 ≤ n ∧ Post (.list (List.replicate n.toNat (.int i))) D₂)
    (hp : ∀ env, starEach [x] env = [(false, eval x env)] := by intro _; rfl) :
    HN c ns σ D (.BinOp (.List [x] lp) .Mult r pos) Post := by
  intro s Q E S K
  refine wpAny_BinOp (List_ ?_)
  rw [hp]
  refine spliced_cons (H s _ E S fun a D₁ v h₁ tk₁ p S₁ k₁ r₁ => spliced_nil ?_)
  obtain ⟨i, rfl, H₂⟩ := p
  obtain ⟨t, rfl⟩ := r₁
  refine wpAny_newObj_type ?_ (by show ([Value.int i t] : List Value).toArray.size ≤ sizeLine; rw [sizeLine_eq]; simp)
  refine H₂ _ _ E (S₁.push _) fun b D₂ v h₂ tk₂ p S₂ k₂ r₂ => ?_
  obtain ⟨n, rfl, hn, hlo, p⟩ := p
  obtain ⟨t', rfl⟩ := r₂
  have hl : h₂.get? h₁.objs.size = some { cls := .type "list", dict := none, data := .seq #[Value.int i t] 0, slots := #[] } := k₂ _ _ (fun q => by
    obtain ⟨_, f, ⟨o, es, ep, ho, _⟩, _⟩ := (S₁.dr _ q).1
    exact absurd (Heap.lt_size ho) (Nat.lt_irrefl _)) (Heap.get?_push_size _ rfl)
  have kk : Kp c.d s.heap h₂ := k₁.trans ((Kp.all fun _ _ e => Heap.get?_push_of_some _ e).trans k₂)
  have fin : Q (.ref h₂.objs.size) { s with heap := h₂.push { cls := .type "list", data := .seq (List.foldl (fun x1 x2 => x1 ++ x2) #[] (List.replicate (if (#[Value.int i t] : Array Value).isEmpty = true then 0 else n.toNat) #[Value.int i t])) }, toks := tk₂ } := by
    refine K (.list (List.replicate n.toNat (.int i))) D₂ _ _ tk₂ p (S₂.push _) (kk.trans (Kp.all fun _ _ e => Heap.get?_push_of_some _ e)) (S₂.freshSize kk)
      (rep_list S₂.sizeX (vs := List.replicate n.toNat (Value.int i t)) ⟨0, ?_⟩ (reps_iff.mpr ⟨by simp, fun j t' v' a b => ?_⟩))
    · rw [Heap.get?_push_size _ rfl]
      simp only [Array.isEmpty, List.size_toArray, mul_fold]
      rfl
    · by_cases hj : j < n.toNat
      · rw [List.getElem?_replicate, if_pos hj] at a b
        cases a; cases b; exact rep_int
      · rw [List.getElem?_replicate, if_neg hj] at a
        cases a
  have hl' : ({ s with heap := h₂, toks := tk₂ } : Shared).heap.get? h₁.objs.size = some { cls := .type "list", dict := none, data := .seq #[Value.int i t] 0, slots := #[] } := hl
  have go := AutoListH.list___mul___list_int_3 h₁.objs.size #[Value.int i t] 0 n t' (by simp [Builtin.List.listFitsIndex]; (exact zq173 hn hlo)) (by simp; (exact zq174 hn hlo)) (by simp [Builtin.List.listTooLong, sizeLine]; (exact zq175 hn hlo))
  have hT : ({ s with heap := h₂, toks := tk₂ } : Shared).TypeIs (.ref h₁.objs.size) "list" := ⟨_, hl', rfl⟩
  with_reducible refine wpAny_binaryOp_repeat_ref (T := "list") (U := "int") (by decide) hT (fun s' => typeIs_int s' n t') noFill_list_mul F.fills_int_mul F.slot_int_rmul repeat_list F.slot_int_index.lookup ?_
  refine call_meets F.slot_int_rmul (typeIs_int _ n t') F.entry_int_rmul (F.args_int_rmul_2 _ _) (int___rmul___int_list n t' h₁.objs.size #[Value.int i t] 0) ⟨hl', rfl, ⟨_, hl', rfl⟩, ?_⟩
  exact call_meets F.slot_list_mul ⟨_, hl', rfl⟩ F.entry_list_mul (F.args_list_mul_2 _ _) go ⟨hl', fin⟩
end
end Mine
namespace Mine

theorem bb_len : bootBuiltins "len" = some (.builtin "len") := by decide +kernel
theorem bb_max : bootBuiltins "max" = some (.builtin "max") := by decide +kernel
theorem bb_abs : bootBuiltins "abs" = some (.builtin "abs") := by decide +kernel
theorem bb_sum : bootBuiltins "sum" = some (.builtin "sum") := by decide +kernel
theorem bb_list : bootBuiltins "list" = some (.type "list") := by decide +kernel
theorem bb_range : bootBuiltins "range" = some (.type "range") := by decide +kernel
theorem bb_enumerate : bootBuiltins "enumerate" = some (.type "enumerate") := by decide +kernel
theorem bb_zip : bootBuiltins "zip" = some (.type "zip") := by decide +kernel
theorem nn_len : ("len" : Str) ≠ "__name__" := by decide +kernel
theorem nn_max : ("max" : Str) ≠ "__name__" := by decide +kernel
theorem nn_abs : ("abs" : Str) ≠ "__name__" := by decide +kernel
theorem nn_sum : ("sum" : Str) ≠ "__name__" := by decide +kernel
theorem nn_list : ("list" : Str) ≠ "__name__" := by decide +kernel
theorem nn_range : ("range" : Str) ≠ "__name__" := by decide +kernel
theorem nn_enumerate : ("enumerate" : Str) ≠ "__name__" := by decide +kernel
theorem nn_zip : ("zip" : Str) ≠ "__name__" := by decide +kernel

section
variable {c : Cx} {ns : Names} {σ : Vals} {D : Int × Int} {e l r : Expr} {Post Post' : PV → Int × Int → Prop}

/-- the name of a built-in -/
theorem go_builtin {f : Str} {v : Value} (hf : (f, NameKind.globalImplicit) ∈ ns) (hm : c.mg f = none) (hb : bootBuiltins f = some v) (hn : f ≠ "__name__") {p : Pos} {s : Shared} {Q : Value → Shared → Prop} {E : Value → Shared → Prop}
    (S : ESt c ns σ D s.heap) (h : Q v s) (hd : (f == ("__debug__" : Str)) = false) : wpAny (model c.prog c.w) c.A (eval (.Name f p) c.env) Q E s := by
  obtain ⟨mb, hmb, hbb⟩ := S.gl.b
  refine Name_function_global S.ok.kind (S.ok.kinds _ _ hf) ?_ hd
  refine loadGlobal_builtin (mg := c.mg) (mb := mb) ?_ hm ?_ ((hbb f hn).trans hb) h
  · rw [S.ok.glob]; exact S.gl.g.keeps S.base
  · rw [S.ok.blt]; exact hmb.keeps S.base

theorem go_global {f : Str} {v : Value} (hf : (f, NameKind.globalImplicit) ∈ ns) (hm : c.mg f = some v) {p : Pos} {s : Shared} {Q : Value → Shared → Prop} {E : Value → Shared → Prop}
    (S : ESt c ns σ D s.heap) (h : Q v s) (hd : (f == ("__debug__" : Str)) = false) : wpAny (model c.prog c.w) c.A (eval (.Name f p) c.env) Q E s := by
  refine Name_function_global S.ok.kind (S.ok.kinds _ _ hf) ?_ hd
  refine loadGlobal_global (mg := c.mg) ?_ hm h
  rw [S.ok.glob]; exact S.gl.g.keeps S.base

/-- a call of a built-in function or a type by its name, at least one argument -/
theorem go_callB {f : Str} {v : Value} {a : Expr} {args : List Expr} {p pos : Pos} (hf : (f, NameKind.globalImplicit) ∈ ns) (hm : c.mg f = none) (hb : bootBuiltins f = some v) (hn : f ≠ "__name__") (hd : (f == ("__debug__" : Str)) = false)
    (hv : (∃ id, v = .builtin id) ∨ ∃ T, v = .type T) (hp : Plain (a :: args)) {s : Shared} {Q : Value → Shared → Prop} {E : Value → Shared → Prop}
    (S : ESt c ns σ D s.heap) (h : wpAny (model c.prog c.w) c.A (spliced (backTo pos (starEach (a :: args) c.env))) (fun vs s₁ => wpAny (model c.prog c.w) c.A (call v vs) Q E s₁) E s) :
    wpAny (model c.prog c.w) c.A (eval (.Call (.Name f p) (a :: args) [] pos) c.env) Q E s := by
  refine wpAny_Call_NameR (go_builtin hf hm hb hn S ?_ hd)
  have pl := hp.any pos c.env
  have e1 := hp.1 c.env
  rw [e1] at h pl ⊢
  rcases hv with ⟨id, rfl⟩ | ⟨T, rfl⟩
  · refine callWith_builtin pl ?_
    exact evalArgs_plain h
  · refine PyProof.Rows.callWith_type pl ?_
    exact evalArgs_plain h

inductive LenP (Post : PV → Int × Int → Prop) (a : PV) (D : Int × Int) : Prop
  | mk (l : List PV) (e : a = .list l) (p : l.length ≤ sizeLine ∧ Post (.int l.length) D) : LenP Post a D
inductive AbsP (Post : PV → Int × Int → Prop) (a : PV) (D : Int × Int) : Prop
  | mk (i : Int) (e : a = .int i) (p : Post (.int i.natAbs) D) : AbsP Post a D
inductive MaxP (Post : PV → Int × Int → Prop) (a b : PV) (D : Int × Int) : Prop
  | mk (x y : Int) (ha : a = .int x) (hb : b = .int y) (p : Post (.int (max x y)) D) : MaxP Post a b D
theorem he_len {p pos : Pos} (H : HE c ns σ D e (LenP Post))
    (hf : (("len" : Str), NameKind.globalImplicit) ∈ ns) (hm : c.mg "len" = none) (hp : Plain [e]) : HE c ns σ D (.Call (.Name "len" p) [e] [] pos) Post := fun s Q E S K =>
  go_callB hf hm bb_len nn_len (by decide) (.inl ⟨_, rfl⟩) hp S (by
    rw [hp.1]
    refine spliced_cons (H s _ E S fun t D₁ v h₁ tk₁ p S₁ k₁ r₁ => spliced_nil ?_)
    obtain ⟨l, rfl, hs, p⟩ := p
    obtain ⟨a, vs, rfl, _, pl, r⟩ := r₁
    rw [sizeLine_eq] at hs
    have e1 : vs.toArray.size = l.length := by simp [r.len]
    refine len_list pl.isList (by rw [e1]; omega) ?_
    rw [e1]
    exact K (.int l.length) D₁ _ h₁ _ p S₁ k₁ rep_int)

theorem he_abs {p pos : Pos} (H : HE c ns σ D e (AbsP Post))
    (hf : (("abs" : Str), NameKind.globalImplicit) ∈ ns) (hm : c.mg "abs" = none) (hp : Plain [e]) : HE c ns σ D (.Call (.Name "abs" p) [e] [] pos) Post := fun s Q E S K =>
  go_callB hf hm bb_abs nn_abs (by decide) (.inl ⟨_, rfl⟩) hp S (by
    rw [hp.1]
    refine spliced_cons (H s _ E S fun t D₁ v h₁ tk₁ p S₁ k₁ r₁ => spliced_nil ?_)
    obtain ⟨i, rfl, p⟩ := p
    obtain ⟨t, rfl⟩ := r₁
    refine call_abs_int fun u tk => ?_
    rw [show (if i < 0 then -i else i) = (i.natAbs : Int) by split <;> (first | exact zq171 (by assumption) | exact zq176 (by assumption) | omega)]
    exact K _ D₁ _ h₁ _ p S₁ k₁ rep_int)

theorem he_max {p pos : Pos} (H : HE c ns σ D l fun a D₁ => HE c ns σ D₁ r (MaxP Post a))
    (hf : (("max" : Str), NameKind.globalImplicit) ∈ ns) (hm : c.mg "max" = none) (hp : Plain [l, r]) : HE c ns σ D (.Call (.Name "max" p) [l, r] [] pos) Post := fun s Q E S K =>
  go_callB hf hm bb_max nn_max (by decide) (.inl ⟨_, rfl⟩) hp S (by
    rw [hp.1]
    refine spliced_cons (H s _ E S fun a D₁ v h₁ tk₁ H₂ S₁ k₁ r₁ => ?_)
    rw [hp.2.1]
    refine spliced_cons (H₂ _ _ E S₁ fun b D₂ v' h₂ tk₂ p S₂ k₂ r₂ => spliced_nil ?_)
    obtain ⟨x, y, rfl, rfl, p⟩ := p
    obtain ⟨t, rfl⟩ := r₁
    obtain ⟨t', rfl⟩ := r₂
    refine max_two_ints S.room.1 fun h' tk k => ?_
    have fin : ∀ t, Q (.int (max x y) t) { s with heap := h', toks := tk } := fun t => K _ D₂ _ h' _ p (S₂.grow k) ((k₁.trans k₂).trans (Kp.all k)) rep_int
    by_cases q : y > x
    · rw [if_pos q, show y = max x y by (exact zq182 q)]; exact fin _
    · rw [if_neg q, show x = max x y by (exact zq183 q)]; exact fin _)

theorem he_sum {p pos : Pos} (H : HE c ns σ D e fun a D' => ∃ l : List Int, a = .list (il l) ∧ Post (.int l.sum) D')
    (hf : (("sum" : Str), NameKind.globalImplicit) ∈ ns) (hm : c.mg "sum" = none) (hp : Plain [e]) : HE c ns σ D (.Call (.Name "sum" p) [e] [] pos) Post := fun s Q E S K =>
  go_callB hf hm bb_sum nn_sum (by decide) (.inl ⟨_, rfl⟩) hp S (by
    rw [hp.1]
    refine spliced_cons (H s _ E S fun t D₁ v h₁ tk₁ p S₁ k₁ r₁ => spliced_nil ?_)
    obtain ⟨l, rfl, p⟩ := p
    obtain ⟨a, vs, rfl, _, pl, r⟩ := r₁
    have hi := intsAre_of r
    obtain ⟨xs, hx⟩ := hi.allInts.items
    have hn : numsOf vs.toArray.toList = l := by rw [show vs.toArray.toList = vs from rfl, hi.numsOf]
    have hl := pl.isList
    rw [hx] at hl hn
    rw [nums_intItems] at hn
    refine sum_intListG S.room.1 hl fun h' tk t' k => ?_
    rw [preSum_eq, List.take_of_length_le (by simp), hn]
    exact K _ D₁ _ h' _ p (S₁.grow k) (k₁.trans (Kp.all k)) rep_int)

/-- list(x) of a list: a new one -/
theorem hn_copy {p pos : Pos} (H : HE c ns σ D e fun a D' => ∃ l, a = .list l ∧ l.length ≤ sizeLine ∧ Post (.list l) D')
    (hf : (("list" : Str), NameKind.globalImplicit) ∈ ns) (hm : c.mg "list" = none) (hp : Plain [e]) : HN c ns σ D (.Call (.Name "list" p) [e] [] pos) Post := fun s Q E S K =>
  go_callB hf hm bb_list nn_list (by decide) (.inr ⟨_, rfl⟩) hp S (by
    rw [hp.1]
    refine spliced_cons (H s _ E S fun t D₁ v h₁ tk₁ p S₁ k₁ r₁ => spliced_nil ?_)
    obtain ⟨l, rfl, hs, p⟩ := p
    obtain ⟨a, vs, rfl, _, ⟨n, pl⟩, r⟩ := r₁
    refine call_list_seq a (.inl rfl) pl rfl rfl (fun h' c' k hD => ?_) (by simp [r.len]; exact hs)
    exact K (.list l) D₁ _ h' _ p (S₁.grow k) (k₁.trans (Kp.all k)) (S₁.freshSize k₁) (rep_list S₁.sizeX ⟨c', hD⟩ (Reps.keep (fun b o hx e => ⟨hx, k b o e⟩) _ _ r)))

/-- what a def of the text does, whoever calls it -/
structure FS (prog : Program) (w : World) (g₀ : Heap) (mg : Str → Option Value) (d : Option Addr) (f : Str) (n : Nat) (φ : List PV → Int × Int → (PV → Int × Int → Prop) → Prop) : Prop where
  go : ∃ a fd o, mg f = some (.ref a) ∧ g₀.get? a = some o ∧ o.data = .func fd ∧
    ∀ (A : Around) (X : Addr → Prop) (D : Int × Int) (s : Shared) (vs : List Value) (ts : List PV) (Post : PV → Int × Int → Prop) (Q : Value → Shared → Prop) (E : Value → Shared → Prop),
      Room A n → GOk g₀ mg → (∀ b o, g₀.get? b = some o → s.heap.get? b = some o) → (∀ a, d = some a → DrawsAt prog w s.heap a D ∧ X a ∧ g₀.get? a = none) → (∀ b, X b → ∃ o, s.heap.get? b = some o) →
      Reps X s.heap ts vs → φ ts D Post →
      (∀ t D' v h' tk, Post t D' → (∀ a, d = some a → DrawsAt prog w h' a D') → Kp d s.heap h' → Rep X h' t v → Q v { s with heap := h', toks := tk }) →
      wpAny (model prog w) A (call (.ref a) vs) Q E s

theorem spliced_len {pos : Pos} {es : List Expr} : True := trivial

theorem he_call {f : Str} {n : Nat} {φ : List PV → Int × Int → (PV → Int × Int → Prop) → Prop} {a : Expr} {args : List Expr} {p pos : Pos} (F : FS c.prog c.w c.g₀ c.mg c.d f n φ) (R : Room c.A n)
    (H : HLs c ns σ D (a :: args) fun ts D' => φ ts D' Post)
    (hf : (f, NameKind.globalImplicit) ∈ ns) (hd : (f == ("__debug__" : Str)) = false) (hp : Plain (a :: args)) : HE c ns σ D (.Call (.Name f p) (a :: args) [] pos) Post := fun s Q E S K => by
  obtain ⟨fa, fd, o, hm, ho, hdat, go⟩ := F.go
  refine wpAny_Call_NameR (go_global hf hm S ?_ hd)
  have e1 := hp.1 c.env
  have h := H s pos (fun vs s₁ => (s₁.heap.get? fa = some o ∧ o.data = .func fd) ∧ wpAny (model c.prog c.w) c.A (call (.ref fa) vs) Q E s₁) E S fun ts D₁ vs h₁ tk₁ hφ S₁ k₁ r₁ =>
    ⟨⟨S₁.base _ _ ho, hdat⟩, go c.A c.X D₁ _ vs ts Post Q E R S₁.gl S₁.base (fun a q => ⟨(S₁.dr a q).1, (S₁.dr a q).2.1, (S₁.dr a q).2.2⟩) S₁.live r₁ hφ
      fun t D' v h' tk p dr k r => K t D' v h' tk p (S₁.next k dr) (k₁.trans k) r⟩
  rw [e1] at h ⊢
  exact callWith_function (o := o) (fd := fd) (evalArgs_plain h)
end
end Mine
namespace Mine

structure FrOk (c : Cx) (ns : Names) (h : Heap) : Prop where
  nd : (ns.map (·.1)).Nodup
  has : ∃ m, h.Ns c.env.locals m
  cell : ∀ x, (x, NameKind.cell) ∈ ns → ∃ b v, c.env.cells.lookup x = some b ∧ h.IsCell b v

section
variable {c : Cx} {ns : Names} {σ σ' : Vals} {D : Int × Int} {h h' : Heap}

theorem FrOk.keep (F : FrOk c ns h) (k : ∀ b o, Fo c.env b → h.get? b = some o → h'.get? b = some o) : FrOk c ns h' where
  nd := F.nd
  has := by obtain ⟨m, e⟩ := F.has; exact ⟨m, Heap.Ns.one e fun o e => k _ o (.inl rfl) e⟩
  cell := fun x hx => by
    obtain ⟨b, v, e, o, ho, hd⟩ := F.cell x hx
    exact ⟨b, v, e, o, k b o (.inr ⟨_, mem_of_lookup e⟩) ho, hd⟩
theorem FrOk.kp (F : FrOk c ns h) (S : CxOk c) (k : Kp c.d h h') : FrOk c ns h' := F.keep fun b o hb e => k b o (S.dne b hb) e

theorem fo_reads {c : Cx} {h h' : Heap} {x : Str} {v : Value} {k : NameKind} (r : Reads c.env h x v k) (kp : ∀ b o, Fo c.env b → h.get? b = some o → h'.get? b = some o) : Reads c.env h' x v k := by
  cases k with
  | «local» => obtain ⟨m, a, b⟩ := r; exact ⟨m, Heap.Ns.one a fun o e => kp _ o (.inl rfl) e, b⟩
  | cell => obtain ⟨cc, a, o, b, b'⟩ := r; exact ⟨cc, a, o, kp _ o (.inr ⟨_, mem_of_lookup a⟩) b, b'⟩
  | free => obtain ⟨cc, a, o, b, b'⟩ := r; exact ⟨cc, a, o, kp _ o (.inr ⟨_, mem_of_lookup a⟩) b, b'⟩
  | _ => exact r.elim

/-- a store into a name of the frame -/
theorem store_ok {x : Str} {k : NameKind} {t : PV} {v : Value} (sa : SetAt ns σ x k t σ') (hk : k = .local ∨ k = .cell) {s : Shared} {Q : Unit → Shared → Prop} {E : Value → Shared → Prop}
    (S : ESt c ns σ D s.heap) (F : FrOk c ns s.heap) (r : Rep c.X s.heap t v)
    (K : ∀ h' tk, ESt c ns σ' D h' → FrOk c ns h' → (∀ b o, (k = .local → b ≠ c.env.locals) → (k = .cell → ∀ n, (n, b) ∉ c.env.cells) → s.heap.get? b = some o → h'.get? b = some o) →
      (∀ y k' v', y ≠ x → Reads c.env s.heap y v' k' → Reads c.env h' y v' k') → Q () { s with heap := h', toks := tk }) :
    wpAny (model c.prog c.w) c.A (storeName c.env x v) Q E s := by
  have kd := S.ok.kinds x k sa.mem
  obtain ⟨m, hm⟩ := F.has
  have repK : ∀ {h' : Heap}, (∀ b o, ¬ Fo c.env b → s.heap.get? b = some o → h'.get? b = some o) → ∀ {t : PV} {v : Value}, Rep c.X s.heap t v → Rep c.X h' t v :=
    fun {h'} kp {t v} r => Rep.keep (fun b o hx e => ⟨hx, kp b o (fun q => hx (S.cx.inX b q)) e⟩) t v r
  have next : ∀ {h' : Heap}, (∀ b o, ¬ Fo c.env b → s.heap.get? b = some o → h'.get? b = some o) →
      (∀ y k' t', At ns σ' y k' t' → ∃ v', Reads c.env h' y v' k' ∧ Rep c.X s.heap t' v') → (∀ b, Fo c.env b → ∃ o, h'.get? b = some o) → ESt c ns σ' D h' := fun {h'} kp hv hfo =>
    { base := fun b o e => kp b o (fun q => noS (S.cx.new b q) e) (S.base b o e)
      vars := fun y k' t' a => by
        obtain ⟨v', r1, r2⟩ := hv y k' t' a
        exact ⟨v', r1, repK kp r2⟩
      dr := fun a q => ⟨(S.dr a q).1.keep fun o e => kp a o (fun fo => S.cx.dne a fo q) e, (S.dr a q).2⟩
      live := fun b hb => by
        by_cases fo : Fo c.env b
        · exact hfo b fo
        · obtain ⟨o, e⟩ := S.live b hb
          exact ⟨o, kp b o fo e⟩
      cx := S.cx
      ok := S.ok
      gl := S.gl
      room := S.room }
  have alive : ∀ b, Fo c.env b → ∃ o, s.heap.get? b = some o := fun b fo => S.live b (S.cx.inX b fo)
  rcases hk with rfl | rfl
  · refine wpAny_storeName_local kd hm (fun h' hn hs => ?_) (by rw [S.ok.kind]; rfl)
    have kp : ∀ b o, ¬ Fo c.env b → s.heap.get? b = some o → h'.get? b = some o := fun b o fo e => (hs.2 b (fun q => fo (.inl q))).trans e
    have cellsK : ∀ {y : Str} {cc : Addr}, c.env.cells.lookup y = some cc → ∀ o, s.heap.get? cc = some o → h'.get? cc = some o := fun e o q => (hs.2 _ (S.cx.ne _ _ (mem_of_lookup e))).trans q
    have rds : ∀ y k' v', y ≠ x → Reads c.env s.heap y v' k' → Reads c.env h' y v' k' := fun y k' v' hne r1 => by
      cases k' with
      | «local» =>
        obtain ⟨m', a, b⟩ := r1
        refine ⟨_, hn, ?_⟩
        have e : m' y = m y := by
          obtain ⟨o1, e1, p1, x1, x2, x3, x4⟩ := a
          obtain ⟨o2, e2, p2, y1, y2, y3, y4⟩ := hm
          rw [x1] at y1; cases y1; rw [x2] at y2; cases y2
          rw [← x4, ← y4]
        simp [hne, ← e, b]
      | cell => obtain ⟨cc, a, o, b, b'⟩ := r1; exact ⟨cc, a, o, cellsK a o b, b'⟩
      | free => obtain ⟨cc, a, o, b, b'⟩ := r1; exact ⟨cc, a, o, cellsK a o b, b'⟩
      | _ => exact r1.elim
    refine K h' _ (next kp (fun y k' t' a => ?_) fun b fo => ?_) ⟨F.nd, ⟨_, hn⟩, fun y hy => ?_⟩ ?_ rds
    · rcases sa.read F.nd a with ⟨rfl, rfl, rfl⟩ | ⟨hne, a'⟩
      · exact ⟨v, ⟨_, hn, by simp⟩, r⟩
      · obtain ⟨v', r1, r2⟩ := S.vars y k' t' a'
        exact ⟨v', rds y k' v' hne r1, r2⟩
    · by_cases q : b = c.env.locals
      · subst q; obtain ⟨o, es, ep, ho, _⟩ := hn; exact ⟨o, ho⟩
      · obtain ⟨o, e⟩ := alive b fo
        exact ⟨o, (hs.2 b q).trans e⟩
    · obtain ⟨b, v', e, o, ho, hd⟩ := F.cell y hy
      exact ⟨b, v', e, o, cellsK e o ho, hd⟩
    · exact fun b o n1 _ e => (hs.2 b (n1 rfl)).trans e
  · obtain ⟨b, v₀, e, hc⟩ := F.cell x sa.mem
    refine wpAny_storeName_cell S.ok.kind kd e hc fun h' hc' hs => ?_
    have kp : ∀ b o, ¬ Fo c.env b → s.heap.get? b = some o → h'.get? b = some o := fun b' o fo e' => (hs.2 b' (fun q => fo (.inr ⟨x, q ▸ mem_of_lookup e⟩))).trans e'
    have hL : c.env.locals ≠ b := fun q => S.cx.ne _ _ (mem_of_lookup e) q.symm
    have cellsK : ∀ {y : Str} {cc : Addr}, y ≠ x → c.env.cells.lookup y = some cc → ∀ o, s.heap.get? cc = some o → h'.get? cc = some o := fun hne e' o q =>
      (hs.2 _ (fun q' => hne (name_of_addr S.cx.apart (mem_of_lookup e') (by rw [q']; exact mem_of_lookup e)))).trans q
    have rds : ∀ y k' v', y ≠ x → Reads c.env s.heap y v' k' → Reads c.env h' y v' k' := fun y k' v' hne r1 => by
      cases k' with
      | «local» => obtain ⟨m', a, b'⟩ := r1; exact ⟨m', Heap.Ns.one a fun o q => (hs.2 _ hL).trans q, b'⟩
      | cell => obtain ⟨cc, a, o, b1, b2⟩ := r1; exact ⟨cc, a, o, cellsK hne a o b1, b2⟩
      | free => obtain ⟨cc, a, o, b1, b2⟩ := r1; exact ⟨cc, a, o, cellsK hne a o b1, b2⟩
      | _ => exact r1.elim
    refine K h' _ (next kp (fun y k' t' a => ?_) fun b' fo => ?_) ⟨F.nd, ⟨m, Heap.Ns.one hm fun o q => (hs.2 _ hL).trans q⟩, fun y hy => ?_⟩ ?_ rds
    · rcases sa.read F.nd a with ⟨rfl, rfl, rfl⟩ | ⟨hne, a'⟩
      · exact ⟨v, ⟨b, e, hc'⟩, r⟩
      · obtain ⟨v', r1, r2⟩ := S.vars y k' t' a'
        exact ⟨v', rds y k' v' hne r1, r2⟩
    · by_cases q : b' = b
      · subst q; obtain ⟨o, ho, _⟩ := hc'; exact ⟨o, ho⟩
      · obtain ⟨o, e'⟩ := alive b' fo
        exact ⟨o, (hs.2 b' q).trans e'⟩
    · by_cases q : y = x
      · subst q; exact ⟨b, _, e, hc'⟩
      · obtain ⟨b', v', e', o, ho, hd⟩ := F.cell y hy
        exact ⟨b', v', e', o, cellsK q e' o ho, hd⟩
    · exact fun b' o _ n2 e' => (hs.2 b' (fun q => n2 rfl x (by rw [q]; exact mem_of_lookup e))).trans e'

/-- what a target takes -/
inductive SetTgt (ns : Names) (KK : NameKind → Prop) : Vals → Expr → PV → Vals → Prop
  | name {σ σ' : Vals} {x : Str} {p : Pos} {t : PV} {k : NameKind} (sa : SetAt ns σ x k t σ') (hk : KK k) : SetTgt ns KK σ (.Name x p) t σ'
  | two {σ σ' σ'' : Vals} {x y : Str} {p q tp : Pos} {n : Nat} {t u : PV} {k k' : NameKind} (sa : SetAt ns σ x k t σ') (hk : KK k) (sb : SetAt ns σ' y k' u σ'') (hk' : KK k') :
      SetTgt ns KK σ (.Tuple [.Name x p, .Name y q] n tp) (.tup [t, u]) σ''

noncomputable def LC (k : NameKind) : Prop := k = .local ∨ k = .cell
noncomputable def LO (k : NameKind) : Prop := k = .local

theorem target_ok {KK : NameKind → Prop} (hKK : ∀ k, KK k → k = .local ∨ k = .cell) {tgt : Expr} {t : PV} {v : Value} (st : SetTgt ns KK σ tgt t σ') {s : Shared} {Q : Unit → Shared → Prop} {E : Value → Shared → Prop}
    (S : ESt c ns σ D s.heap) (F : FrOk c ns s.heap) (r : Rep c.X s.heap t v)
    (K : ∀ h' tk, ESt c ns σ' D h' → FrOk c ns h' → (∀ b o, b ≠ c.env.locals → (KK .cell → ∀ n, (n, b) ∉ c.env.cells) → s.heap.get? b = some o → h'.get? b = some o) → Q () { s with heap := h', toks := tk }) :
    wpAny (model c.prog c.w) c.A (assign tgt c.env v) Q E s := by
  cases st with
  | name sa hk => exact wpAny_assign_Name (store_ok sa (hKK _ hk) S F r fun h' tk S' F' k _ => K h' tk S' F' fun b o n1 n2 e => k b o (fun _ => n1) (fun q => n2 (by rw [← q]; exact hk)) e)
  | two sa hk sb hk' =>
    obtain ⟨a, vs, rfl, hx, ht, rr⟩ := r
    obtain ⟨v₁, r', rfl, h1, v₂, r'', rfl, h2, rfl⟩ := rr
    refine wpAny_assign_Tuple S.room.1 ht rfl rfl fun h₁ he => ?_
    have kp₁ : ∀ b o, s.heap.get? b = some o → h₁.get? b = some o := fun b o e => he b o (Nat.ne_of_lt (Heap.lt_size e)) e
    have S₁ := S.grow kp₁
    have F₁ := F.keep (h' := h₁) fun b o _ e => kp₁ b o e
    have up : ∀ {t : PV} {v : Value}, Rep c.X s.heap t v → Rep c.X h₁ t v := fun {t v} r => Rep.keep (fun b o hx e => ⟨hx, kp₁ b o e⟩) t v r
    show wpAny _ _ (do holding [v₂] (assign (.Name _ _) c.env v₁); do holding [] (assign (.Name _ _) c.env v₂); pure ()) _ _ _
    refine wpAny_bind (wpAny_holding (wpAny_assign_Name (store_ok sa (hKK _ hk) S₁ F₁ (up h1) fun h₂ tk₂ S₂ F₂ k₂ _ => ?_)))
    have r₂ : Rep c.X h₂ _ v₂ := Rep.keep (fun b o hx e => ⟨hx, k₂ b o (fun _ q => hx (S.cx.inX b (.inl q))) (fun _ n q => hx (S.cx.inX b (.inr ⟨n, q⟩))) e⟩) _ v₂ (up h2)
    refine wpAny_bind (wpAny_holding (wpAny_assign_Name (store_ok sb (hKK _ hk') S₂ F₂ r₂ fun h₃ tk₃ S₃ F₃ k₃ _ => ?_)))
    exact wpAny_pure (K h₃ tk₃ S₃ F₃ fun b o n1 n2 e => k₃ b o (fun _ => n1) (fun q => n2 (by rw [← q]; exact hk')) (k₂ b o (fun _ => n1) (fun q => n2 (by rw [← q]; exact hk)) (kp₁ b o e)))
end

/-- what an item of a walk keeps off: the walker's own objects and what was made since the walk began -/
noncomputable def Xi (X : Addr → Prop) (own : List Addr) (hc hs : Heap) (b : Addr) : Prop := X b ∨ b ∈ own ∨ (hc.get? b = none ∧ ∃ o, hs.get? b = some o)

/-- an iterator over items -/
structure Itr (prog : Program) (w : World) (A : Around) (X : Addr → Prop) (hc : Heap) (tgt : Expr) (I : Addr) (items : List PV) (own : List Addr) (St : Nat → Heap → Prop) (Mid : Nat → Value → Heap → Prop) : Prop where
  frame : ∀ i h h', St i h → (∀ b o, ¬ X b → (∃ o', hc.get? b = some o') → h.get? b = some o → h'.get? b = some o) → St i h'
  item : ∀ i t (s : Shared) (Q : Option Value → Shared → Prop) (E : Value → Shared → Prop), items[i]? = some t → St i s.heap → (∀ b, X b → ∃ o, s.heap.get? b = some o) →
    (∀ v h' tk, Rep (Xi X own hc s.heap) h' t v → Mid i v h' → (∀ b o, b ∉ own → s.heap.get? b = some o → h'.get? b = some o) → Q (some v) { s with heap := h', toks := tk }) → wpAny (model prog w) A (pyNext (.ref I)) Q E s
  go : ∀ i v (s : Shared) (Q : Unit → Shared → Prop) (E : Value → Shared → Prop), Mid i v s.heap →
    (∀ h', St (i + 1) h' → (∀ b o, b ∉ own → s.heap.get? b = some o → h'.get? b = some o) → Q () { s with heap := h' }) → wpAny (model prog w) A (letOwnedTupleGo tgt (.ref I) v) Q E s
  done : ∀ (s : Shared) (Q : Option Value → Shared → Prop) (E : Value → Shared → Prop), St items.length s.heap →
    (∀ h' tk, (∀ b o, b ∉ own → s.heap.get? b = some o → h'.get? b = some o) → Q none { s with heap := h', toks := tk }) → wpAny (model prog w) A (pyNext (.ref I)) Q E s
  self : ∀ i (s : Shared) (Q : Value → Shared → Prop) (E : Value → Shared → Prop), St i s.heap → Q (.ref I) s → wpAny (model prog w) A (pyIter (.ref I)) Q E s
  notX : ∀ b ∈ own, ¬ X b
  alive : ∀ b ∈ own, ∃ o, hc.get? b = some o
  keepO : ∀ i (h : Heap), St i h → ∀ b ∈ own, ∃ o, h.get? b = some o

noncomputable def Cx.plus (c : Cx) (own : List Addr) : Cx := { c with X := fun b => c.X b ∨ b ∈ own }

theorem ESt.plus {c : Cx} {ns : Names} {σ : Vals} {D : Int × Int} {h h' : Heap} {own : List Addr} (S : ESt c ns σ D h) (hn : ∀ b ∈ own, h.get? b = none) (k : ∀ b o, h.get? b = some o → h'.get? b = some o) (al : ∀ b ∈ own, ∃ o, h'.get? b = some o) :
    ESt (c.plus own) ns σ D h' where
  base := fun b o e => k b o (S.base b o e)
  vars := fun x kd t a => by
    obtain ⟨v, r, rp⟩ := S.vars x kd t a
    exact ⟨v, r.keep k, Rep.keep (fun b o hx e => ⟨fun q => q.elim hx (fun q => noS (hn b q) e), k b o e⟩) t v rp⟩
  dr := fun a q => ⟨(S.dr a q).1.keep fun o e => k a o e, .inl (S.dr a q).2.1, (S.dr a q).2.2⟩
  cx := ⟨fun b q => .inl (S.cx.inX b q), S.cx.apart, S.cx.ne, S.cx.new, S.cx.dne⟩
  live := fun b hb => hb.elim (fun q => let ⟨o, e⟩ := S.live b q; ⟨o, k b o e⟩) (al b)
  ok := S.ok
  gl := S.gl
  room := S.room

/-- what is walked over -/
noncomputable def HI (c : Cx) (ns : Names) (σ : Vals) (D : Int × Int) (e tgt : Expr) (Post : List PV → Int × Int → Prop) : Prop :=
  ∀ (s : Shared) (Q : Value → Shared → Prop) (E : Value → Shared → Prop), ESt c ns σ D s.heap →
    (∀ items D' I own St Mid h' tk, Post items D' → ESt (c.plus own) ns σ D' h' → Kp c.d s.heap h' → Itr c.prog c.w c.A c.X h' tgt I items own St Mid → St 0 h' → (∀ b ∈ own, s.heap.get? b = none) → Q (.ref I) { s with heap := h', toks := tk }) →
    wpAny (model c.prog c.w) c.A (eval e c.env) (fun x s₁ => wpAny (model c.prog c.w) c.A (pyIter x) Q E s₁) E s
end Mine
namespace Mine

/-- the addresses that a walk over what stood in hc leaves alone -/
noncomputable def Xw (X : Addr → Prop) (own : List Addr) (hc : Heap) (b : Addr) : Prop := X b ∨ b ∈ own ∨ hc.get? b = none

section
variable {c : Cx} {ns : Names} {σ : Vals} {D : Int × Int} {e : Expr} {prog : Program} {w : World} {A : Around} {X : Addr → Prop} {h hc : Heap} {own : List Addr}

theorem xw_reps {l : List PV} {vs : List Value} (r : Reps X h l vs) (k : ∀ b o, ¬ X b → h.get? b = some o → hc.get? b = some o) (hn : ∀ b ∈ own, h.get? b = none) : Reps (Xw X own hc) hc l vs :=
  Reps.keep (fun b o hx e => by
    refine ⟨fun q => ?_, k b o hx e⟩
    rcases q with q | q | q
    · exact hx q
    · exact noS (hn b q) e
    · exact noS q (k b o hx e)) _ _ r
theorem xw_keep {h h' : Heap} {l : List PV} {vs : List Value} (r : Reps (Xw X own hc) h l vs) (k : ∀ b o, ¬ X b → (∃ o', hc.get? b = some o') → b ∉ own → h.get? b = some o → h'.get? b = some o) : Reps (Xw X own hc) h' l vs :=
  Reps.keep (fun b o hx e => ⟨hx, k b o (fun q => hx (.inl q)) (by
    cases q : hc.get? b with
    | none => exact absurd (.inr (.inr q)) hx
    | some o' => exact ⟨o', rfl⟩) (fun q => hx (.inr (.inl q))) e⟩) _ _ r
theorem xw_out {hs : Heap} {t : PV} {v : Value} (r : Rep (Xw X own hc) h t v) : Rep (Xi X own hc hs) h t v :=
  Rep.keep (fun b o hx e => ⟨fun q => hx (q.elim .inl fun q => .inr (q.elim .inl fun q => .inr q.1)), e⟩) _ _ r

/-- out of a walk whose items are handed on as they stand -/
theorem itr_walks {x : Str} {px : Pos} {I : Addr} {fp wr : List Addr} {n : Nat} {P : Nat → Value → Prop} {St : Nat → Heap → Prop} {items : List PV} (W : Walks prog w A I fp wr n P St) (G : Heap → Prop)
    (hn : items.length = n) (hwr : ∀ b ∈ wr, ¬ X b ∧ ∃ o, hc.get? b = some o) (hfp : ∀ b ∈ fp, ¬ X b ∧ ∃ o, hc.get? b = some o)
    (hst : ∀ i h, St i h → ∀ b ∈ wr, ∃ o, h.get? b = some o)
    (hG : ∀ h h', G h → (∀ b o, ¬ X b → (∃ o', hc.get? b = some o') → b ∉ wr → h.get? b = some o → h'.get? b = some o) → G h')
    (hP : ∀ i t v h hs, items[i]? = some t → P i v → G h → Rep (Xi X wr hc hs) h t v) :
    Itr prog w A X hc (.Name x px) I items wr (fun i h => St i h ∧ G h) (fun i v h => St (i + 1) h ∧ G h) where
  frame := fun i h h' st k => ⟨W.frame i h h' st.1 fun b hb o e => k b o (hfp b hb).1 (hfp b hb).2 e, hG h h' st.2 fun b o hx he _ e => k b o hx he e⟩
  item := fun i t s Q E ht st hl hQ => by
    have hi : i < n := by rw [← hn]; exact (List.getElem?_eq_some_iff.mp ht).1
    refine W.item i s Q E hi st.1 fun v h' tk hPv st' k => ?_
    have g' := hG _ h' st.2 fun b o _ _ hw e => k b o hw e
    exact hQ v h' tk (hP i t v h' _ ht hPv g') ⟨st', g'⟩ k
  go := fun i v s Q E st hQ => wpAny_pure (hQ s.heap st fun _ _ _ e => e)
  done := fun s Q E st hQ => W.done s Q E (hn ▸ st.1) hQ
  self := fun i s Q E st hQ => W.self i s Q E st.1 hQ
  notX := fun b hb => (hwr b hb).1
  alive := fun b hb => (hwr b hb).2
  keepO := fun i h st b hb => hst i h st.1 b hb

theorem itr_walksT {elts : List Expr} {k : Nat} {tp : Pos} {I : Addr} {fp wr : List Addr} {n : Nat} {Pt : Nat → Array Value → Prop} {St : Nat → Heap → Prop} {Mid : Nat → Addr → Heap → Prop} {items : List PV}
    (W : WalksT prog w A I fp wr n Pt St Mid) (G : Heap → Prop)
    (hn : items.length = n) (hwr : ∀ b ∈ wr, ¬ X b ∧ ∃ o, hc.get? b = some o) (hfp : ∀ b ∈ fp, ¬ X b ∧ ∃ o, hc.get? b = some o)
    (hst : ∀ i h, St i h → ∀ b ∈ wr, ∃ o, h.get? b = some o)
    (hG : ∀ h h', G h → (∀ b o, ¬ X b → (∃ o', hc.get? b = some o') → b ∉ wr → h.get? b = some o → h'.get? b = some o) → G h')
    (hP : ∀ i t vals h hs, items[i]? = some t → Pt i vals → G h → ∃ l, t = .tup l ∧ Reps (Xi X wr hc hs) h l vals.toList) :
    Itr prog w A X hc (.Tuple elts k tp) I items wr (fun i h => St i h ∧ G h) (fun i v h => (∃ T, v = .ref T ∧ Mid i T h) ∧ G h) where
  frame := fun i h h' st k => ⟨W.frame i h h' st.1 fun b hb o e => k b o (hfp b hb).1 (hfp b hb).2 e, hG h h' st.2 fun b o hx he _ e => k b o hx he e⟩
  item := fun i t s Q E ht st hl hQ => by
    have hi : i < n := by rw [← hn]; exact (List.getElem?_eq_some_iff.mp ht).1
    refine W.item i s Q E hi st.1 fun T vals h' tk hPv hT htup mid k => ?_
    have g' := hG _ h' st.2 fun b o _ _ hw e => k b o hw e
    obtain ⟨l, rfl, r⟩ := hP i t vals h' s.heap ht hPv g'
    refine hQ (.ref T) h' tk (rep_tup (vs := vals.toList) (fun q => ?_) (by simpa using htup) r) ⟨⟨T, rfl, mid⟩, g'⟩ k
    rcases q with q | q | q
    · obtain ⟨o, e⟩ := hl T q
      exact absurd (Heap.lt_size e) (Nat.not_lt.mpr hT)
    · exact W.apart i T h' mid q
    · obtain ⟨o, e⟩ := q.2
      exact absurd (Heap.lt_size e) (Nat.not_lt.mpr hT)
  go := fun i v s Q E st hQ => by
    obtain ⟨⟨T, rfl, mid⟩, g⟩ := st
    exact W.go elts k tp i T s Q E mid fun h' st' k => hQ h' ⟨st', hG _ h' g fun b o _ _ hw e => k b o hw e⟩ k
  done := fun s Q E st hQ => W.done s Q E (hn ▸ st.1) hQ
  self := fun i s Q E st hQ => W.self i s Q E st.1 hQ
  notX := fun b hb => (hwr b hb).1
  alive := fun b hb => (hwr b hb).2
  keepO := fun i h st b hb => hst i h st.1 b hb

theorem lis {h : Heap} {a l i} (x : h.IsListIter a l i) : ∃ o, h.get? a = some o := let ⟨o, ho, _⟩ := x; ⟨o, ho⟩

/-- over a list -/
noncomputable def upto (a b : Int) : List Int := (List.range (b - a).toNat).map fun i : Nat => a + (i : Int)
noncomputable def enums (l : List PV) : List PV := (l.zipIdx).map fun p => .tup [.int p.2, p.1]
noncomputable def zips (l l' : List PV) : List PV := (l.zip l').map fun p => .tup [p.1, p.2]
inductive ListP (P : List PV → Int × Int → Prop) (a : PV) (D : Int × Int) : Prop
  | mk (l : List PV) (e : a = .list l) (p : P l D) : ListP P a D
inductive TupP (P : List PV → Int × Int → Prop) (a : PV) (D : Int × Int) : Prop
  | mk (l : List PV) (e : a = .tup l) (p : P l D) : TupP P a D
inductive Range1P (P : List PV → Int × Int → Prop) (a : PV) (D : Int × Int) : Prop
  | mk (n : Int) (e : a = .int n) (p : -65536 ≤ n ∧ n ≤ 65536 ∧ P (il (upto 0 n)) D) : Range1P P a D
inductive Range2P (P : List PV → Int × Int → Prop) (u v : PV) (D : Int × Int) : Prop
  | mk (a b : Int) (ha : u = .int a) (hb : v = .int b) (h1 : -65536 ≤ a) (h2 : a ≤ 65536) (h3 : -65536 ≤ b) (h4 : b ≤ 65536) (p : P (il (upto a b)) D) : Range2P P u v D
inductive EnumP (P : List PV → Int × Int → Prop) (a : PV) (D : Int × Int) : Prop
  | mk (l : List PV) (e : a = .list l) (p : P (enums l) D) : EnumP P a D
inductive ZipP (P : List PV → Int × Int → Prop) (a b : PV) (D : Int × Int) : Prop
  | mk (x y : List PV) (ha : a = .list x) (hb : b = .list y) (p : P (zips x y) D) : ZipP P a b D
theorem hi_list {P : List PV → Int × Int → Prop} {x : Str} {px : Pos} (H : HE c ns σ D e (ListP P)) : HI c ns σ D e (.Name x px) P := by
  intro s Q E S K
  refine H s _ E S fun t D₁ v h₁ tk₁ p S₁ k₁ r₁ => ?_
  obtain ⟨l, rfl, p⟩ := p
  obtain ⟨a, vs, rfl, hx, pl, r⟩ := r₁
  refine wpAny_pyIter_list pl.isList ?_
  have kp : ∀ b o, h₁.get? b = some o → (h₁.push { cls := .type "list_iterator", data := .fields #[.ref a, .int 0 0] }).get? b = some o := fun b o e => Heap.get?_push_of_some _ e
  have hne : a ≠ h₁.objs.size := by obtain ⟨n, e⟩ := pl; exact Nat.ne_of_lt (Heap.lt_size e)
  have hit : (h₁.push { cls := .type "list_iterator", data := .fields #[.ref a, .int 0 0] }).IsListIter h₁.objs.size a 0 := ⟨_, Heap.get?_push_size _ rfl, rfl, rfl⟩
  have pl' := pl.at fun o e => kp a o e
  have hw : ∀ b ∈ [h₁.objs.size], ¬ c.X b ∧ ∃ o, (h₁.push { cls := .type "list_iterator", data := .fields #[.ref a, .int 0 0] }).get? b = some o := fun b hb => by
    rw [List.mem_singleton.mp hb]; exact ⟨S₁.sizeX, lis hit⟩
  refine K l D₁ _ [h₁.objs.size] _ _ _ _ p (S₁.plus (fun b hb => by rw [List.mem_singleton.mp hb]; exact Heap.get?_none_of_le (Nat.le_refl _)) kp fun b hb => (hw b hb).2) (k₁.trans (Kp.all kp))
    (itr_walks (Walks.list S₁.room.1 h₁.objs.size a hne vs.toArray) (fun h => Reps (Xw c.X [h₁.objs.size] (h₁.push { cls := .type "list_iterator", data := .fields #[.ref a, .int 0 0] })) h l vs)
      (by simp [r.len]) hw (fun b hb => ?_) (fun i h st b hb => ?_) (fun h h' g k => xw_keep g k) fun i t v h hs ht hv g => ?_)
    ⟨⟨hit, pl'.isList⟩, xw_reps r (fun b o _ e => kp b o e) fun b hb => ?_⟩ fun b hb => ?_
  · rcases List.mem_cons.mp hb with rfl | hb
    · exact ⟨S₁.sizeX, lis hit⟩
    · rw [List.mem_singleton.mp hb]
      exact ⟨hx, let ⟨n, e⟩ := pl'; ⟨_, e⟩⟩
  · rw [List.mem_singleton.mp hb]; exact (lis st.1)
  · exact xw_out ((reps_iff.mp g).2 i t v ht (by simpa using hv))
  · rw [List.mem_singleton.mp hb]; exact Heap.get?_none_of_le (Nat.le_refl _)
  · rw [List.mem_singleton.mp hb]; exact S₁.freshSize k₁

/-- over a tuple -/
theorem hi_tuple {P : List PV → Int × Int → Prop} {x : Str} {px : Pos} (H : HE c ns σ D e (TupP P)) : HI c ns σ D e (.Name x px) P := by
  intro s Q E S K
  refine H s _ E S fun t D₁ v h₁ tk₁ p S₁ k₁ r₁ => ?_
  obtain ⟨l, rfl, p⟩ := p
  obtain ⟨a, vs, rfl, hx, pl, r⟩ := r₁
  refine wpAny_pyIter_tuple pl ?_
  have kp : ∀ b o, h₁.get? b = some o → (h₁.push { cls := .type "tuple_iterator", data := .fields #[.ref a, .int 0 0] }).get? b = some o := fun b o e => Heap.get?_push_of_some _ e
  have hne : a ≠ h₁.objs.size := by obtain ⟨n, e, _⟩ := pl; exact Nat.ne_of_lt (Heap.lt_size e)
  have hit : (h₁.push { cls := .type "tuple_iterator", data := .fields #[.ref a, .int 0 0] }).IsTupleIter h₁.objs.size a 0 := ⟨_, Heap.get?_push_size _ rfl, rfl, rfl⟩
  have some' : ∀ {h : Heap} {b l i}, h.IsTupleIter b l i → ∃ o, h.get? b = some o := fun x => let ⟨o, ho, _⟩ := x; ⟨o, ho⟩
  have pl' := pl.push { cls := .type "tuple_iterator", data := .fields #[.ref a, .int 0 0] }
  have hw : ∀ b ∈ [h₁.objs.size], ¬ c.X b ∧ ∃ o, (h₁.push { cls := .type "tuple_iterator", data := .fields #[.ref a, .int 0 0] }).get? b = some o := fun b hb => by
    rw [List.mem_singleton.mp hb]; exact ⟨S₁.sizeX, some' hit⟩
  refine K l D₁ _ [h₁.objs.size] _ _ _ _ p (S₁.plus (fun b hb => by rw [List.mem_singleton.mp hb]; exact Heap.get?_none_of_le (Nat.le_refl _)) kp fun b hb => (hw b hb).2) (k₁.trans (Kp.all kp))
    (itr_walks (Walks.tuple S₁.room.1 h₁.objs.size a hne vs.toArray) (fun h => Reps (Xw c.X [h₁.objs.size] (h₁.push { cls := .type "tuple_iterator", data := .fields #[.ref a, .int 0 0] })) h l vs)
      (by simp [r.len]) hw (fun b hb => ?_) (fun i h st b hb => ?_) (fun h h' g k => xw_keep g k) fun i t v h hs ht hv g => ?_)
    ⟨⟨hit, pl'⟩, xw_reps r (fun b o _ e => kp b o e) fun b hb => ?_⟩ fun b hb => ?_
  · rcases List.mem_cons.mp hb with rfl | hb
    · exact ⟨S₁.sizeX, some' hit⟩
    · rw [List.mem_singleton.mp hb]
      exact ⟨hx, let ⟨n, e, _⟩ := pl'; ⟨_, e⟩⟩
  · rw [List.mem_singleton.mp hb]; exact some' st.1
  · exact xw_out ((reps_iff.mp g).2 i t v ht (by simpa using hv))
  · rw [List.mem_singleton.mp hb]; exact Heap.get?_none_of_le (Nat.le_refl _)
  · rw [List.mem_singleton.mp hb]; exact S₁.freshSize k₁

/-- a to b, one by one -/

theorem itr_range {x : Str} {px : Pos} {I : Addr} {a b : Int} (hh : A.handled = none) (hI : ¬ X I) (hit : ∃ o, hc.get? I = some o) :
    Itr prog w A X hc (.Name x px) I (il (upto a b)) [I] (fun i h => IsRangeIter h I (a + (i : Nat) * 1) (((b - a).toNat : Int) - (i : Nat)) 1 ∧ True) (fun i v h => IsRangeIter h I (a + ((i + 1 : Nat) : Nat) * 1) (((b - a).toNat : Int) - ((i + 1 : Nat) : Nat)) 1 ∧ True) :=
  itr_walks (Walks.range hh I a 1 (b - a).toNat) (fun _ => True) (by simp [upto]) (fun b hb => by rw [List.mem_singleton.mp hb]; exact ⟨hI, hit⟩) (fun b hb => by rw [List.mem_singleton.mp hb]; exact ⟨hI, hit⟩)
    (fun i h st b hb => by rw [List.mem_singleton.mp hb]; exact ⟨_, st⟩) (fun _ _ _ _ => trivial) fun i t v h hs ht hv _ => by
      obtain ⟨tk, rfl⟩ := hv
      simp only [il, upto, List.map_map, List.getElem?_map, Option.map_eq_some_iff] at ht
      obtain ⟨j, hj, rfl⟩ := ht
      have : j = i := by
        have := List.getElem?_eq_some_iff.mp hj
        obtain ⟨h1, h2⟩ := this
        simpa using h2.symm
      subst this
      simp only [Function.comp, Int.mul_one]
      exact rep_int

theorem hi_range1 {P : List PV → Int × Int → Prop} {x : Str} {px p pos : Pos} (H : HE c ns σ D e (Range1P P))
    (hf : (("range" : Str), NameKind.globalImplicit) ∈ ns) (hm : c.mg "range" = none) (hp : Plain [e]) : HI c ns σ D (.Call (.Name "range" p) [e] [] pos) (.Name x px) P := by
  intro s Q E S K
  refine go_callB hf hm bb_range nn_range (by decide) (.inr ⟨_, rfl⟩) hp S ?_
  rw [hp.1]
  refine spliced_cons (H s _ E S fun t D₁ v h₁ tk₁ p S₁ k₁ r₁ => spliced_nil ?_)
  obtain ⟨n, rfl, hlo, hhi, p⟩ := p
  obtain ⟨t, rfl⟩ := r₁
  refine call_range_1 (wpAny_pyIter_range (IsRange.new ..) (small_one (by decide) (by decide) (by omega) (by omega)) ?_)
  have hsz : Builtin.Range.rangeSize 0 n 1 = (n.toNat : Int) := by rw [rangeSize_one]; split <;> (first | exact zq64 hlo hhi (by assumption) | exact zq65 hlo hhi (by assumption) | omega)
  have S₂ := (S₁.push { cls := .type "range", data := .fields #[.int 0 tk₁, .int n t, .int 1 (tk₁ + 1)] })
  have k₂ : Kp c.d s.heap _ := k₁.trans (Kp.all fun b o e => Heap.get?_push_of_some { cls := .type "range", data := .fields #[.int 0 tk₁, .int n t, .int 1 (tk₁ + 1)] } e)
  refine K (il (upto 0 n)) D₁ _ [(h₁.push { cls := .type "range", data := .fields #[.int 0 tk₁, .int n t, .int 1 (tk₁ + 1)] }).objs.size] _ _ _ _ p (S₂.plus (fun b hb => by rw [List.mem_singleton.mp hb]; exact Heap.get?_none_of_le (Nat.le_refl _)) (fun b o e => Heap.get?_push_of_some _ e) fun b hb => by rw [List.mem_singleton.mp hb]; exact ⟨_, Heap.get?_push_size _ rfl⟩) (k₂.trans (Kp.all fun b o e => Heap.get?_push_of_some _ e)) (itr_range S.room.1 S₂.sizeX ⟨_, Heap.get?_push_size _ rfl⟩) ⟨?_, trivial⟩ fun b hb => ?_
  · show IsRangeIter _ _ _ _ _
    rw [show (0 : Int) + ((0 : Nat) : Int) * 1 = 0 by simp, show (((n - 0).toNat : Nat) : Int) - ((0 : Nat) : Int) = Builtin.Range.rangeSize 0 n 1 by rw [hsz]; simp]
    exact Heap.get?_push_size _ rfl
  · rw [List.mem_singleton.mp hb]; exact S₂.freshSize k₂

theorem hi_range2 {P : List PV → Int × Int → Prop} {l r : Expr} {x : Str} {px p pos : Pos} (H : HE c ns σ D l fun u D₁ => HE c ns σ D₁ r (Range2P P u))
    (hf : (("range" : Str), NameKind.globalImplicit) ∈ ns) (hm : c.mg "range" = none) (hp : Plain [l, r]) : HI c ns σ D (.Call (.Name "range" p) [l, r] [] pos) (.Name x px) P := by
  intro s Q E S K
  refine go_callB hf hm bb_range nn_range (by decide) (.inr ⟨_, rfl⟩) hp S ?_
  rw [hp.1]
  refine spliced_cons (H s _ E S fun u D₁ v h₁ tk₁ H₂ S₁ k₁ r₁ => ?_)
  rw [hp.2.1]
  refine spliced_cons (H₂ _ _ E S₁ fun u' D₂ v' h₂ tk₂ p S₂ k₂ r₂ => spliced_nil ?_)
  obtain ⟨a, b, rfl, rfl, a1, a2, b1, b2, p⟩ := p
  obtain ⟨t, rfl⟩ := r₁
  obtain ⟨t', rfl⟩ := r₂
  have k₁ := k₁.trans k₂
  refine call_range_2 (wpAny_pyIter_range (IsRange.new ..) (small_one (by omega) (by omega) (by omega) (by omega)) ?_)
  have hsz : Builtin.Range.rangeSize a b 1 = ((b - a).toNat : Int) := by rw [rangeSize_one]; split <;> (first | exact zq68 (by assumption) | exact zq69 (by assumption) | omega)
  have S₃ := (S₂.push { cls := .type "range", data := .fields #[.int a t, .int b t', .int 1 tk₂] })
  have k₂ : Kp c.d s.heap _ := k₁.trans (Kp.all fun b' o e => Heap.get?_push_of_some { cls := .type "range", data := .fields #[.int a t, .int b t', .int 1 tk₂] } e)
  refine K (il (upto a b)) D₂ _ [(h₂.push { cls := .type "range", data := .fields #[.int a t, .int b t', .int 1 tk₂] }).objs.size] _ _ _ _ p (S₃.plus (fun b hb => by rw [List.mem_singleton.mp hb]; exact Heap.get?_none_of_le (Nat.le_refl _)) (fun b o e => Heap.get?_push_of_some _ e) fun b hb => by rw [List.mem_singleton.mp hb]; exact ⟨_, Heap.get?_push_size _ rfl⟩) (k₂.trans (Kp.all fun b o e => Heap.get?_push_of_some _ e)) (itr_range S.room.1 S₃.sizeX ⟨_, Heap.get?_push_size _ rfl⟩) ⟨?_, trivial⟩ fun b hb => ?_
  · show IsRangeIter _ _ _ _ _
    rw [show a + ((0 : Nat) : Int) * 1 = a by simp, show (((b - a).toNat : Nat) : Int) - ((0 : Nat) : Int) = Builtin.Range.rangeSize a b 1 by rw [hsz]; simp]
    exact Heap.get?_push_size _ rfl
  · rw [List.mem_singleton.mp hb]; exact S₃.freshSize k₂

/-- numbered -/

theorem hi_enum {P : List PV → Int × Int → Prop} {elts : List Expr} {k : Nat} {tp p pos : Pos} (H : HE c ns σ D e (EnumP P))
    (hf : (("enumerate" : Str), NameKind.globalImplicit) ∈ ns) (hm : c.mg "enumerate" = none) (hp : Plain [e]) : HI c ns σ D (.Call (.Name "enumerate" p) [e] [] pos) (.Tuple elts k tp) P := by
  intro s Q E S K
  refine go_callB hf hm bb_enumerate nn_enumerate (by decide) (.inr ⟨_, rfl⟩) hp S ?_
  rw [hp.1]
  refine spliced_cons (H s _ E S fun t D₁ v h₁ tk₁ p S₁ k₁ r₁ => spliced_nil ?_)
  obtain ⟨l, rfl, p⟩ := p
  obtain ⟨a, vs, rfl, hx, pl, r⟩ := r₁
  refine call_enumerate_list pl.isList fun h₂ he hit hz kp => wpAny_pyIter_enum he ?_
  have hlt : a < h₁.objs.size := by obtain ⟨n, e⟩ := pl; exact Heap.lt_size e
  have pl' := pl.at fun o e => kp a o e
  have ge : ∀ b, h₁.objs.size ≤ b → h₁.get? b = none := fun b hb => Heap.get?_none_of_le hb
  have S₂ := S₁.grow kp
  have hw : ∀ b ∈ [h₁.objs.size + 1, h₁.objs.size], h₁.get? b = none := fun b hb => by
    rcases List.mem_cons.mp hb with rfl | hb
    · exact ge _ (Nat.le_succ _)
    · rw [List.mem_singleton.mp hb]; exact ge _ (Nat.le_refl _)
  have hw' : ∀ b ∈ [h₁.objs.size + 1, h₁.objs.size], ¬ c.X b ∧ ∃ o, h₂.get? b = some o := fun b hb => ⟨S₁.notX (hw b hb), by
    rcases List.mem_cons.mp hb with rfl | hb
    · exact ⟨_, he⟩
    · rw [List.mem_singleton.mp hb]; exact (lis hit)⟩
  refine K (enums l) D₁ _ _ _ _ _ _ p (S₁.plus hw kp fun b hb => (hw' b hb).2) (k₁.trans (Kp.all kp))
    (itr_walksT (WalksT.enumerate S₁.room.1 (h₁.objs.size + 1) h₁.objs.size a (Nat.succ_ne_self _) (Nat.ne_of_lt (Nat.lt_succ_of_lt hlt)) (Nat.ne_of_lt hlt) vs.toArray)
      (fun h => Reps (Xw c.X [h₁.objs.size + 1, h₁.objs.size] h₂) h l vs)
      (by simp [enums, r.len]) hw' (fun b hb => ?_) (fun i h st b hb => ?_) (fun h h' g k => xw_keep g k) fun i t vals h hs ht hv g => ?_)
    ⟨⟨⟨_, he⟩, hit, pl'.isList⟩, xw_reps r (fun b o _ e => kp b o e) hw⟩ fun b hb => S₁.fresh k₁ (hw b hb)
  · rcases List.mem_cons.mp hb with rfl | hb
    · exact hw' _ (by simp)
    · rcases List.mem_cons.mp hb with rfl | hb
      · exact hw' _ (by simp)
      · rw [List.mem_singleton.mp hb]
        exact ⟨hx, let ⟨n, e⟩ := pl'; ⟨_, e⟩⟩
  · obtain ⟨⟨old, e1⟩, e2, _⟩ := st
    rcases List.mem_cons.mp hb with rfl | hb
    · exact ⟨_, e1⟩
    · rw [List.mem_singleton.mp hb]; exact (lis e2)
  · obtain ⟨tk, v, hv, rfl⟩ := hv
    simp only [enums, List.getElem?_map, Option.map_eq_some_iff] at ht
    obtain ⟨q, hq, rfl⟩ := ht
    rw [List.getElem?_zipIdx] at hq
    obtain ⟨t', h1, h2⟩ := Option.map_eq_some_iff.mp hq
    subst h2
    refine ⟨_, rfl, ?_⟩
    show Reps _ _ _ [Value.int (i : Int) tk, v]
    refine Reps.cons ?_ (Reps.one (xw_out ((reps_iff.mp g).2 i t' v h1 (by simpa using hv))))
    simp only [Nat.zero_add]
    exact rep_int

theorem hi_zip {P : List PV → Int × Int → Prop} {l r : Expr} {elts : List Expr} {k : Nat} {tp p pos : Pos} (H : HE c ns σ D l fun a D₁ => HE c ns σ D₁ r (ZipP P a))
    (hf : (("zip" : Str), NameKind.globalImplicit) ∈ ns) (hm : c.mg "zip" = none) (hp : Plain [l, r]) : HI c ns σ D (.Call (.Name "zip" p) [l, r] [] pos) (.Tuple elts k tp) P := by
  intro s Q E S K
  refine go_callB hf hm bb_zip nn_zip (by decide) (.inr ⟨_, rfl⟩) hp S ?_
  rw [hp.1]
  refine spliced_cons (H s _ E S fun t D₁ v h₁ tk₁ H₂ S₁ k₁ r₁ => ?_)
  rw [hp.2.1]
  refine spliced_cons (H₂ _ _ E S₁ fun u' D₂ v' h₂ tk₂ p S₂ k₂ r₂ => spliced_nil ?_)
  obtain ⟨x, y, rfl, rfl, p⟩ := p
  have r₁ := S₁.up k₂ r₁
  have k₁ := k₁.trans k₂
  obtain ⟨a, vs, rfl, hx, pl, rr⟩ := r₁
  obtain ⟨a', ws, rfl, hx', pl₂, rr₂⟩ := r₂
  refine call_zip_2 pl.isList pl₂.isList fun h₃ z1 z2 z3 i1 i2 hz kp => ?_
  have hlt : a < h₂.objs.size := by obtain ⟨n, e⟩ := pl; exact Heap.lt_size e
  have hlt' : a' < h₂.objs.size := by obtain ⟨n, e⟩ := pl₂; exact Heap.lt_size e
  have S₃ := S₂.grow kp
  have pl' := pl.at fun o e => kp a o e
  have pl₂' := pl₂.at fun o e => kp a' o e
  have ge : ∀ b, h₂.objs.size ≤ b → h₂.get? b = none := fun b hb => Heap.get?_none_of_le hb
  generalize hN : h₂.objs.size = N at z1 z2 z3 i1 i2 hlt hlt' ge
  have hlt : @LT.lt Nat _ a N := hlt
  have hlt' : @LT.lt Nat _ a' N := hlt'
  refine wpAny_pyIter_zip z1 ?_
  have DD : ZipApart (N + 4) (N + 2) (N + 3) N (N + 1) a a' := by
    constructor <;> (show @Ne Nat _ _; (first | exact zq221 | exact zq225 | exact zq227 | exact zq217 | exact zq220 | exact zq218 | exact zq219 | exact zq223 | exact zq224 | exact zq226 | exact zq124 hlt | exact zq123 hlt | exact zq121 hlt | exact zq122 hlt | exact zq124 hlt' | exact zq123 hlt' | exact zq121 hlt' | exact zq122 hlt' | omega))
  have hw : ∀ b ∈ [N + 4, N + 3, N, N + 1], h₂.get? b = none ∧ ∃ o, h₃.get? b = some o := fun b hb => by
    simp only [List.mem_cons, List.not_mem_nil, or_false] at hb
    rcases hb with rfl | rfl | rfl | rfl
    · exact ⟨ge _ (by show (_ : Nat) ≤ _; (exact zq230)), _, z1⟩
    · exact ⟨ge _ (by show (_ : Nat) ≤ _; (exact zq36)), _, z3⟩
    · exact ⟨ge _ (by show (_ : Nat) ≤ _; (exact zq228)), (lis i1)⟩
    · exact ⟨ge _ (by show (_ : Nat) ≤ _; (exact zq35)), (lis i2)⟩
  have hw' : ∀ b ∈ [N + 4, N + 3, N, N + 1], ¬ c.X b ∧ ∃ o, h₃.get? b = some o := fun b hb => ⟨S₂.notX (hw b hb).1, (hw b hb).2⟩
  refine K (zips x y) D₂ _ _ _ _ _ _ p (S₂.plus (fun b hb => (hw b hb).1) kp fun b hb => (hw b hb).2) (k₁.trans (Kp.all kp))
    (itr_walksT (WalksT.zip2 S₂.room.1 (N + 4) (N + 2) (N + 3) N (N + 1) a a' DD vs.toArray ws.toArray)
      (fun h => Reps (Xw c.X [N + 4, N + 3, N, N + 1] h₃) h x vs ∧ Reps (Xw c.X [N + 4, N + 3, N, N + 1] h₃) h y ws)
      (by simp [zips, rr.len, rr₂.len]) hw' (fun b hb => ?_) (fun i h st b hb => ?_) (fun h h' g k => ⟨xw_keep g.1 k, xw_keep g.2 k⟩) fun i t vals h hs ht hv g => ?_)
    ⟨⟨z1, z2, ⟨_, _, z3⟩, i1, i2, pl'.isList, pl₂'.isList⟩, xw_reps rr (fun b o _ e => kp b o e) fun b hb => (hw b hb).1, xw_reps rr₂ (fun b o _ e => kp b o e) fun b hb => (hw b hb).1⟩ fun b hb => S₂.fresh k₁ (hw b hb).1
  · simp only [List.mem_cons, List.not_mem_nil, or_false] at hb
    rcases hb with rfl | rfl | rfl | rfl | rfl | rfl | rfl
    · exact hw' _ (by simp)
    · exact ⟨S₂.notX (ge _ (by show (_ : Nat) ≤ _; (exact zq229))), _, z2⟩
    · exact hw' _ (by simp)
    · exact hw' _ (by simp)
    · exact hw' _ (by simp)
    · exact ⟨hx, let ⟨n, e⟩ := pl'; ⟨_, e⟩⟩
    · exact ⟨hx', let ⟨n, e⟩ := pl₂'; ⟨_, e⟩⟩
  · obtain ⟨e1, _, ⟨_, _, e2⟩, e3, e4, _⟩ := st
    simp only [List.mem_cons, List.not_mem_nil, or_false] at hb
    rcases hb with rfl | rfl | rfl | rfl
    · exact ⟨_, e1⟩
    · exact ⟨_, e2⟩
    · exact (lis e3)
    · exact (lis e4)
  · obtain ⟨v, v', hv, hv', rfl⟩ := hv
    simp only [zips, List.getElem?_map, Option.map_eq_some_iff] at ht
    obtain ⟨q, hq, rfl⟩ := ht
    obtain ⟨h1, h2⟩ := List.getElem?_zip_eq_some.mp hq
    exact ⟨_, rfl, Reps.cons (xw_out ((reps_iff.mp g.1).2 i _ v h1 (by simpa using hv))) (Reps.one (xw_out ((reps_iff.mp g.2).2 i _ v' h2 (by simpa using hv'))))⟩
end
end Mine
namespace Mine

/-- what a comprehension sees of the frame about it -/
inductive Cap (ns : Names) (σ : Vals) : Names → Names → Vals → Prop
  | nil : Cap ns σ [] [] []
  | free {x : Str} {t : PV} {r r' : Names} {σ' : Vals} (a : At ns σ x .cell t) (h : Cap ns σ r r' σ') : Cap ns σ ((x, .free) :: r) ((x, .cell) :: r') (some t :: σ')
  | other {x : Str} {k : NameKind} {r r' : Names} {σ' : Vals} (hk : (k == .free) = false) (h : Cap ns σ r r' σ') : Cap ns σ ((x, k) :: r) ((x, k) :: r') (none :: σ')

noncomputable def closL (cells : List (Str × Addr)) : Names → List (Str × Addr) → List (Str × Addr)
  | [], acc => acc
  | (x, k) :: r, acc => if k == .free then closL cells r ((x, (cells.lookup x).getD 0) :: acc) else closL cells r acc

section
variable {ns : Names} {σ : Vals}
theorem Cap.names {r r' : Names} {σ' : Vals} (h : Cap ns σ r r' σ') : r'.map (·.1) = r.map (·.1) := by
  induction h with
  | nil => rfl
  | free a h ih => simp [ih]
  | other hk h ih => simp [ih]
theorem Cap.relabel {env : Env} {r r' : Names} {σ' : Vals} (h : Cap ns σ r r' σ') (hk : env.scope.kind = .function) (kinds : ∀ x k, (x, k) ∈ ns → env.kindOf x = some k) :
    (r.map fun (n, k) => if (k == .free && env.scope.kind == .function && env.kindOf n == some .cell) then (n, .cell) else (n, k)) = r' := by
  induction h with
  | nil => rfl
  | @free x t r r' σ' a h ih =>
    have := kinds _ _ a.mem
    rw [List.map_cons, ih]
    congr 1
    show (if (NameKind.free == .free && env.scope.kind == .function && env.kindOf x == some .cell) = true then (x, NameKind.cell) else (x, .free)) = _
    rw [this, hk]; rfl
  | @other x k r r' σ' hk' h ih =>
    rw [List.map_cons, ih]
    congr 1
    show (if (k == .free && env.scope.kind == .function && env.kindOf x == some .cell) = true then (x, NameKind.cell) else (x, k)) = _
    rw [hk']; rfl
theorem closL_lookup (cells : List (Str × Addr)) : ∀ (r : Names) (acc : List (Str × Addr)) (x : Str) (b : Addr), cells.lookup x = some b → ((x, NameKind.free) ∈ r ∨ acc.lookup x = some b) → (closL cells r acc).lookup x = some b
  | [], acc, x, b, e, h => h.elim (fun q => nomatch q) id
  | (y, k) :: r, acc, x, b, e, h => by
    unfold closL
    split
    · refine closL_lookup cells r _ x b e ?_
      by_cases hxy : x = y
      · subst hxy
        exact .inr (by simp [List.lookup_cons, e])
      · rcases h with h | h
        · rcases List.mem_cons.mp h with q | q
          · exact absurd (congrArg Prod.fst q) hxy
          · exact .inl q
        · refine .inr ?_
          rw [List.lookup_cons]
          have : (x == y) = false := by simpa using hxy
          rw [this]; exact h
    · rename_i hk
      refine closL_lookup cells r _ x b e ?_
      rcases h with h | h
      · rcases List.mem_cons.mp h with q | q
        · cases q; exact absurd rfl hk
        · exact .inl q
      · exact .inr h
theorem closL_mem (cells : List (Str × Addr)) : ∀ (r : Names) (acc : List (Str × Addr)), (∀ x, (x, NameKind.free) ∈ r → ∃ b, cells.lookup x = some b) → ∀ p ∈ closL cells r acc, p ∈ acc ∨ cells.lookup p.1 = some p.2
  | [], acc, _, p, hp => .inl hp
  | (y, k) :: r, acc, hf, p, hp => by
    unfold closL at hp
    split at hp
    · rename_i hk
      rcases closL_mem cells r _ (fun x hx => hf x (List.mem_cons_of_mem _ hx)) p hp with q | q
      · rcases List.mem_cons.mp q with q | q
        · subst q
          obtain ⟨b, e⟩ := hf y (by rw [show k = .free by simpa using hk]; exact List.mem_cons_self)
          exact .inr (by simp [e])
        · exact .inl q
      · exact .inr q
    · exact closL_mem cells r _ (fun x hx => hf x (List.mem_cons_of_mem _ hx)) p hp
theorem closL_apart (cells : List (Str × Addr)) (ap : cells.Pairwise fun x y => x.2 ≠ y.2) : ∀ (r : Names) (acc : List (Str × Addr)), (∀ x, (x, NameKind.free) ∈ r → ∃ b, cells.lookup x = some b) → (r.map (·.1)).Nodup →
    (acc.Pairwise fun x y => x.2 ≠ y.2) → (∀ p ∈ acc, cells.lookup p.1 = some p.2 ∧ p.1 ∉ r.map (·.1)) → (closL cells r acc).Pairwise fun x y => x.2 ≠ y.2
  | [], acc, _, _, h, _ => h
  | (y, k) :: r, acc, hf, nd, h, hn => by
    unfold closL
    have nd' := List.nodup_cons.mp nd
    split
    · rename_i hk
      obtain ⟨b, e⟩ := hf y (by rw [show k = .free by simpa using hk]; exact List.mem_cons_self)
      refine closL_apart cells ap r _ (fun x hx => hf x (List.mem_cons_of_mem _ hx)) nd'.2 (List.pairwise_cons.mpr ⟨fun p hp q => ?_, h⟩) fun p hp => ?_
      · have h1 := mem_of_lookup (hn p hp).1
        have h2 := mem_of_lookup e
        simp only [e, Option.getD_some] at q
        have := name_of_addr ap h2 (by rw [q]; exact h1)
        exact (hn p hp).2 (by rw [← this]; exact List.mem_cons_self)
      · rcases List.mem_cons.mp hp with q | q
        · subst q; exact ⟨by simp [e], nd'.1⟩
        · exact ⟨(hn p q).1, fun z => (hn p q).2 (List.mem_cons_of_mem _ z)⟩
    · exact closL_apart cells ap r _ (fun x hx => hf x (List.mem_cons_of_mem _ hx)) nd'.2 h fun p hp => ⟨(hn p hp).1, fun z => (hn p hp).2 (List.mem_cons_of_mem _ z)⟩

theorem forIn_clos {env : Env} (f : Str × NameKind → List (Str × Addr) → Sem (ForInStep (List (Str × Addr)))) (hf : ∀ x k cs, f (x, k) cs = if (k == .free) = true then (cellOf env x >>= fun a => pure (.yield ((x, a) :: cs))) else pure (.yield cs)) :
    ∀ (r : Names) (acc : List (Str × Addr)), (∀ x, (x, NameKind.free) ∈ r → ∃ b, env.cells.lookup x = some b) → forIn r acc f = pure (closL env.cells r acc)
  | [], acc, _ => rfl
  | (x, k) :: r, acc, h => by
    rw [List.forIn_cons, hf]
    unfold closL
    have hr : ∀ x, (x, NameKind.free) ∈ r → ∃ b, env.cells.lookup x = some b := fun y hy => h y (List.mem_cons_of_mem _ hy)
    split
    · rename_i hk
      obtain ⟨b, e⟩ := h x (by rw [show k = .free by simpa using hk]; exact List.mem_cons_self)
      have ec : cellOf env x = pure b := by unfold cellOf; rw [e]
      rw [ec, pure_bind, pure_bind, e]
      exact forIn_clos f hf r _ hr
    · rw [pure_bind]
      exact forIn_clos f hf r _ hr
theorem closureFor_eq {scope : Scope} {env : Env} (h : ∀ x, (x, NameKind.free) ∈ scope.names → ∃ b, env.cells.lookup x = some b) : closureFor scope env = pure (closL env.cells scope.names []) := by
  unfold closureFor
  dsimp only
  rw [forIn_clos (env := env) _ (fun x k cs => by first | rfl | (cases hk : k == NameKind.free <;> rfl)) scope.names [] h]
  rfl

/-- the values of a comprehension's run -/
noncomputable def run (f : Int × Int → PV → List PV × (Int × Int)) : List PV → Int × Int → List PV × (Int × Int)
  | [], D => ([], D)
  | x :: r, D => ((f D x).1 ++ (run f r (f D x).2).1, (run f r (f D x).2).2)
end

noncomputable def Cx.inner (c : Cx) (env : Env) (X : Addr → Prop) : Cx := { c with env := env, X := X }

/-- an element with its test -/
noncomputable def HBody (c : Cx) (ns : Names) (σ : Vals) (D : Int × Int) (ifs : List Expr) (elt : Expr) (P : List PV → Int × Int → Prop) : Prop :=
  match ifs with
  | [] => HE c ns σ D elt fun t D' => P [t] D'
  | [q] => HT c ns σ D q fun b D' => if b then HE c ns σ D' elt fun t D'' => P [t] D'' else P [] D'
  | _ => False

section
variable {prog : Program} {w : World} {A : Around} {R : Result → Shared → Prop} {s : Shared}
theorem compLoop_G {elt target iter : Expr} {ifs : List Expr} {scope : Scope} {pos : Pos} {it acc : Value} {env : Env} (I : Nat → Shared → Prop)
    (turn : ∀ n s, I n s → ∀ E, wpAny (model prog w) A (pyNext it) (fun r s₁ => match r with
      | none => R (.ok .next) s₁
      | some v => wpAny (model prog w) A (letOwnedTupleGo target it v) (fun _ s₂ => wpAny (model prog w) A (assign target env v) (fun _ s₃ =>
          wpAny (model prog w) A (forIn ifs true fun c r => if r = true then do let ok ← isTrue c env (eval c env); pure (ForInStep.yield ok) else pure (ForInStep.yield r)) (fun ok s₄ =>
            if ok = true then wpAny (model prog w) A (eval elt env) (fun x s₅ => wpAny (model prog w) A (call (.builtin "list.append") [acc, x]) (fun _ s₆ => ∃ m, m < n ∧ I m s₆) E s₅) E s₄
            else ∃ m, m < n ∧ I m s₄) E s₃) E s₂) E s₁) E s)
    (n : Nat) (h : I n s) : codeAny (model prog w) A (.compLoop (.ListComp elt [⟨target, iter, ifs, 0⟩] scope pos) 0 it acc env) R s := by
  refine codeAny_loop rfl I (fun n s hI => ?_) n h
  show wpAny _ A ((compTurn (.ListComp elt [⟨target, iter, ifs, 0⟩] scope pos) 0 it acc env).onRaise (fun x => do noteFrame x env; theTreesLotGoes x)) _ _ s
  refine wpAny_noted ?_
  rw [compTurn_list]
  refine wpAny_bind (wpAny_standAt (wpAny_bind (wpAny_mono (turn n s hI _) (fun r s₁ h₁ => ?_) fun _ _ x => x)))
  cases r with
  | none => exact wpAny_pure h₁
  | some v =>
    refine wpAny_bind (wpAny_mono h₁ (fun _ s₂ h₂ => wpAny_bind (wpAny_mono h₂ (fun _ s₃ h₃ => wpAny_bind (wpAny_mono h₃ (fun ok s₄ h₄ => ?_) fun _ _ x => x)) fun _ _ x => x)) fun _ _ x => x)
    cases ok with
    | false => exact wpAny_pure ⟨rfl, h₄⟩
    | true => exact wpAny_bind (wpAny_bind (wpAny_mono h₄ (fun x s₅ h₅ => wpAny_bind (wpAny_mono h₅ (fun _ s₆ h₆ => wpAny_pure (wpAny_pure ⟨rfl, h₆⟩)) fun _ _ x => x)) fun _ _ x => x))
end
end Mine
namespace Mine

section
variable {c : Cx} {ns : Names} {σ σ' : Vals} {D D' : Int × Int} {h h' : Heap} {Y : List Addr}

theorem ESt.nextY (S : ESt (c.plus Y) ns σ D h) (k : ∀ b o, b ∉ Y → c.d ≠ some b → h.get? b = some o → h'.get? b = some o)
    (hY : ∀ b ∈ Y, ¬ Fo c.env b ∧ c.g₀.get? b = none ∧ ∃ o, h'.get? b = some o) (dr : ∀ a, c.d = some a → DrawsAt c.prog c.w h' a D') : ESt (c.plus Y) ns σ D' h' where
  base := fun b o e => k b o (fun q => noS ((hY b q).2.1) e) (fun q => noS ((S.dr b q).2.2) e) (S.base b o e)
  vars := fun x kd t a => by
    obtain ⟨v, r, rp⟩ := S.vars x kd t a
    exact ⟨v, fo_reads r fun b o fo e => k b o (fun q => (hY b q).1 fo) (S.cx.dne b fo) e,
      Rep.keep (fun b o hx e => ⟨hx, k b o (fun q => hx (.inr q)) (fun q => hx ((S.dr b q).2.1)) e⟩) t v rp⟩
  dr := fun a q => ⟨dr a q, (S.dr a q).2⟩
  live := fun b hb => by
    by_cases hy : b ∈ Y
    · exact (hY b hy).2.2
    · by_cases q : c.d = some b
      · obtain ⟨_, f, ⟨o, es, ep, ho, r⟩, x2⟩ := dr b q
        exact ⟨o, ho⟩
      · obtain ⟨o, e⟩ := S.live b hb
        exact ⟨o, k b o hy q e⟩
  cx := S.cx
  ok := S.ok
  gl := S.gl
  room := S.room

theorem ESt.minus (S : ESt (c.plus Y) ns σ D h) (cx : CxOk c) (hd : ∀ a, c.d = some a → c.X a) : ESt c ns σ D h where
  base := S.base
  vars := fun x kd t a => by
    obtain ⟨v, r, rp⟩ := S.vars x kd t a
    exact ⟨v, r, Rep.keep (fun b o hx e => ⟨fun q => hx (.inl q), e⟩) t v rp⟩
  dr := fun a q => ⟨(S.dr a q).1, hd a q, (S.dr a q).2.2⟩
  live := fun b hb => S.live b (.inl hb)
  cx := cx
  ok := S.ok
  gl := S.gl
  room := S.room

/-- what is walked with may change in the end -/
theorem ESt.off (S : ESt (c.plus Y) ns σ D h) (cx : CxOk c) (hd : ∀ a, c.d = some a → c.X a) {Z Y' : List Addr} (hY' : ∀ b ∈ Y', b ∈ Y) (hZ : ∀ b ∈ Z, b ∈ Y ∧ ¬ c.X b ∧ b ∉ Y' ∧ c.g₀.get? b = none) (k : ∀ b o, b ∉ Z → h.get? b = some o → h'.get? b = some o) : ESt (c.plus Y') ns σ D h' where
  base := fun b o e => k b o (fun q => noS ((hZ b q).2.2.2) e) (S.base b o e)
  vars := fun x kd t a => by
    obtain ⟨v, r, rp⟩ := S.vars x kd t a
    exact ⟨v, fo_reads r fun b o fo e => k b o (fun q => (hZ b q).2.1 (cx.inX b fo)) e, Rep.keep (fun b o hx e => ⟨fun q => hx (q.elim .inl fun q => .inr (hY' b q)), k b o (fun q => hx (.inr (hZ b q).1)) e⟩) t v rp⟩
  dr := fun a q => ⟨(S.dr a q).1.keep fun o e => k a o (fun z => (hZ a z).2.1 (hd a q)) e, .inl (hd a q), (S.dr a q).2.2⟩
  live := fun b hb => by
    obtain ⟨o, e⟩ := S.live b (hb.elim .inl fun q => .inr (hY' b q))
    exact ⟨o, k b o (fun z => hb.elim (hZ b z).2.1 (hZ b z).2.2.1) e⟩
  cx := ⟨fun b q => .inl (cx.inX b q), cx.apart, cx.ne, cx.new, cx.dne⟩
  ok := S.ok
  gl := S.gl
  room := S.room
theorem ESt.nil (S : ESt (c.plus []) ns σ D h) (cx : CxOk c) (hd : ∀ a, c.d = some a → c.X a) : ESt c ns σ D h := S.minus cx hd

structure ScOk (scope : Scope) : Prop where
  kind : scope.kind = .function
  cell : ∀ y ∈ scope.names, y.2 ≠ .cell
  nodup : (scope.names.map (·.1)).Nodup
  names : ∀ y ∈ scope.names, y.2 = .local → scope.names.lookup y.1 = some .local

theorem lookup_of_mem' {l : Names} (nd : (l.map (·.1)).Nodup) {x : Str} {k : NameKind} (h : (x, k) ∈ l) : l.lookup x = some k := by
  induction l with
  | nil => cases h
  | cons p r ih =>
    obtain ⟨y, k'⟩ := p
    have nd' := List.nodup_cons.mp nd
    rw [List.lookup_cons]
    rcases List.mem_cons.mp h with q | q
    · cases q; simp
    · have : (x == y) = false := by
        have : x ≠ y := by rintro rfl; exact nd'.1 (List.mem_map.mpr ⟨_, q, rfl⟩)
        simpa using this
      rw [this]; exact ih nd'.2 q

theorem Cap.atFree {r r' : Names} (h : Cap ns σ r r' σ') : ∀ {x k t}, At r' σ' x k t → k = .cell ∧ (x, NameKind.free) ∈ r ∧ At ns σ x .cell t := by
  induction h with
  | nil => intro x k t a; exact AtG.none_of a
  | free a h ih =>
    intro x k t b
    rcases AtG.inv b with ⟨e, e'⟩ | b
    · cases e; cases e'; exact ⟨rfl, List.mem_cons_self, a⟩
    · exact ⟨(ih b).1, List.mem_cons_of_mem _ (ih b).2.1, (ih b).2.2⟩
  | other hk h ih =>
    intro x k t b
    rcases AtG.inv b with ⟨_, e'⟩ | b
    · cases e'
    · exact ⟨(ih b).1, List.mem_cons_of_mem _ (ih b).2.1, (ih b).2.2⟩
theorem Cap.memFree {r r' : Names} (h : Cap ns σ r r' σ') (hc : ∀ y ∈ r, y.2 ≠ .cell) : ∀ {x}, ((x, NameKind.cell) ∈ r' ∨ (x, NameKind.free) ∈ r) → (x, NameKind.free) ∈ r ∧ ∃ t, At ns σ x .cell t := by
  induction h with
  | nil => intro x b; rcases b with b | b <;> cases b
  | free a h ih =>
    intro x b
    rename_i y t' r r' σ'
    by_cases q : (x = y)
    · subst q; exact ⟨List.mem_cons_self, _, a⟩
    · obtain ⟨h1, h2⟩ := ih (fun y hy => hc y (List.mem_cons_of_mem _ hy)) (x := x) (b.elim (fun b => .inl ((List.mem_cons.mp b).resolve_left fun e => q (congrArg Prod.fst e))) fun b => .inr ((List.mem_cons.mp b).resolve_left fun e => q (congrArg Prod.fst e)))
      exact ⟨List.mem_cons_of_mem _ h1, h2⟩
  | @other y k r r' σ' hk h ih =>
    intro x b
    have : ((x, NameKind.cell) ∈ r' ∨ (x, NameKind.free) ∈ r) := by
      rcases b with b | b
      · rcases List.mem_cons.mp b with e | e
        · exact absurd (congrArg Prod.snd e).symm (hc _ List.mem_cons_self)
        · exact .inl e
      · rcases List.mem_cons.mp b with e | e
        · have : k = .free := (congrArg Prod.snd e).symm
          subst this; exact absurd hk (by decide)
        · exact .inr e
    obtain ⟨h1, h2⟩ := ih (fun y hy => hc y (List.mem_cons_of_mem _ hy)) this
    exact ⟨List.mem_cons_of_mem _ h1, h2⟩

theorem capClosed {scope : Scope} {ns' : Names} (so : ScOk scope) (cap : Cap ns σ scope.names ns' σ') (S : ESt c ns σ D h) : ∀ x, (x, NameKind.free) ∈ scope.names → ∃ b, c.env.cells.lookup x = some b := fun x hx => by
  obtain ⟨_, t, a⟩ := cap.memFree so.cell (.inr hx)
  obtain ⟨v, ⟨b, e, _⟩, _⟩ := S.vars _ _ _ a
  exact ⟨b, e⟩

theorem inner_est {scope : Scope} {ns' : Names} {C : Addr} {m : Str → Option Value} (so : ScOk scope) (cap : Cap ns σ scope.names ns' σ') (S : ESt (c.plus Y) ns σ D h) (hC : C ∈ Y) (hY : ∀ b ∈ Y, ¬ Fo c.env b ∧ c.g₀.get? b = none ∧ c.d ≠ some b)
    (hn : h.Ns C m) :
    ESt (c.inner (compEnvC scope (closL c.env.cells scope.names []) C c.env) (c.plus Y).X) ns' σ' D h ∧ FrOk (c.inner (compEnvC scope (closL c.env.cells scope.names []) C c.env) (c.plus Y).X) ns' h := by
  have hcl := capClosed so cap S
  have hmem : ∀ n b, (n, b) ∈ closL c.env.cells scope.names [] → c.env.cells.lookup n = some b := fun n b hb => (closL_mem c.env.cells scope.names [] hcl _ hb).elim (fun q => nomatch q) id
  have fo : ∀ b, Fo (compEnvC scope (closL c.env.cells scope.names []) C c.env) b → b = C ∨ Fo c.env b := fun b hb => hb.elim .inl fun ⟨n, q⟩ => .inr (.inr ⟨n, mem_of_lookup (hmem n b q)⟩)
  have rl : (relabel scope c.env).names = ns' := cap.relabel S.ok.kind S.ok.kinds
  have nd : (ns'.map (·.1)).Nodup := by rw [cap.names]; exact so.nodup
  have rd : ∀ x t, (x, NameKind.free) ∈ scope.names → At ns σ x .cell t → ∃ v b, (closL c.env.cells scope.names []).lookup x = some b ∧ h.IsCell b (some v) ∧ Rep (c.plus Y).X h t v := fun x t hf a => by
    obtain ⟨v, ⟨b, e, hc⟩, rp⟩ := S.vars _ _ _ a
    exact ⟨v, b, closL_lookup _ _ _ _ _ e (.inl hf), hc, rp⟩
  refine ⟨{ base := S.base, vars := fun x k t a => ?_, dr := S.dr, cx := ⟨fun b hb => ?_, closL_apart _ S.cx.apart _ _ hcl so.nodup List.Pairwise.nil (fun p hp => nomatch hp), fun n b hb => ?_, fun b hb => ?_, fun b hb => ?_⟩, live := S.live, ok := ⟨so.kind, S.ok.glob, S.ok.blt, fun x k hx => ?_⟩, gl := S.gl, room := S.room },
    ⟨nd, ⟨m, hn⟩, fun x hx => ?_⟩⟩
  · obtain ⟨rfl, hf, a'⟩ := cap.atFree a
    obtain ⟨v, b, h1, h2, h3⟩ := rd x t hf a'
    exact ⟨v, ⟨b, h1, h2⟩, h3⟩
  · rcases fo b hb with rfl | q
    · exact .inr hC
    · exact S.cx.inX b q
  · intro q
    have := S.cx.inX
    exact (hY C hC).1 (.inr ⟨n, by rw [← show b = C from q]; exact mem_of_lookup (hmem n b hb)⟩)
  · rcases fo b hb with rfl | q
    · exact (hY _ hC).2.1
    · exact S.cx.new b q
  · rcases fo b hb with rfl | q
    · exact (hY _ hC).2.2
    · exact S.cx.dne b q
  · show (relabel scope c.env).names.lookup x = some k
    rw [rl]; exact lookup_of_mem' nd hx
  · obtain ⟨hf, t, a⟩ := cap.memFree so.cell (.inl hx)
    obtain ⟨v, b, h1, h2, h3⟩ := rd x t hf a
    exact ⟨b, some v, h1, h2⟩

/-- the body of a comprehension, wherever its frame lies -/
inductive HCP (c : Cx) (ns' : Names) (σ' : Vals) (tgt : Expr) (t : PV) (D : Int × Int) (ifs : List Expr) (elt : Expr) (P : List PV → Int × Int → Prop) : Prop
  | mk (σ'' : Vals) (st : SetTgt ns' LO σ' tgt t σ'') (b : ∀ env X, HBody (c.inner env X) ns' σ'' D ifs elt fun zs D' => zs.length ≤ 1 ∧ P zs D') : HCP c ns' σ' tgt t D ifs elt P
noncomputable def HC (c : Cx) (ns' : Names) (σ' : Vals) (tgt : Expr) (t : PV) (D : Int × Int) (ifs : List Expr) (elt : Expr) (P : List PV → Int × Int → Prop) : Prop :=
  HCP c ns' σ' tgt t D ifs elt P

theorem body_go {c : Cx} {ns : Names} {σ : Vals} {D : Int × Int} {ifs : List Expr} {elt : Expr} {P : List PV → Int × Int → Prop} (H : HBody c ns σ D ifs elt P) {s : Shared} {Qn : Shared → Prop} {Qs : Value → Shared → Prop} {E : Value → Shared → Prop} (S : ESt c ns σ D s.heap)
    (K1 : ∀ D' h' tk, P [] D' → ESt c ns σ D' h' → Kp c.d s.heap h' → Qn { s with heap := h', toks := tk })
    (K2 : ∀ t D' v h' tk, P [t] D' → ESt c ns σ D' h' → Kp c.d s.heap h' → Rep c.X h' t v → Qs v { s with heap := h', toks := tk }) :
    wpAny (model c.prog c.w) c.A (forIn ifs true fun q r => if r = true then do let ok ← isTrue q c.env (eval q c.env); pure (ForInStep.yield ok) else pure (ForInStep.yield r)) (fun ok s₄ =>
      if ok = true then wpAny (model c.prog c.w) c.A (eval elt c.env) (fun x s₅ => Qs x s₅) E s₄ else Qn s₄) E s := by
  match ifs, H with
  | [], H =>
    refine wpAny_tests_nil ?_
    rw [if_pos rfl]
    exact H s _ E S fun t D' v h' tk p S' k r => K2 t D' v h' tk p S' k r
  | [q], H =>
    refine wpAny_tests_one (H s _ E S fun b D' h' tk p S' k => ?_)
    cases b with
    | false => exact K1 D' h' tk p S' k
    | true =>
      rw [if_pos rfl]
      exact p _ _ E S' fun t D'' v h'' tk'' p S'' k' r => K2 t D'' v h'' tk'' p S'' (k.trans k') r
  | _ :: _ :: _, H => exact H.elim

theorem comp_core {scope : Scope} {ns' : Names} {elt iter tgt : Expr} {ifs : List Expr} {pos : Pos} {I : Addr} {items : List PV} {own : List Addr} {St : Nat → Heap → Prop} {Mid : Nat → Value → Heap → Prop}
    (so : ScOk scope) (cap : Cap ns σ scope.names ns' σ') {s₂ : Shared} (S : ESt (c.plus own) ns σ D s₂.heap) (cx : CxOk c) (hd : ∀ a, c.d = some a → c.X a) (hg : ∀ b ∈ own, c.g₀.get? b = none ∧ c.d ≠ some b)
    (IT : Itr c.prog c.w c.A c.X s₂.heap tgt I items own St Mid) (st0 : St 0 s₂.heap)
    (J : Nat → (Int × Int) → List PV → Prop) (j0 : J 0 D []) (hsz : items.length ≤ sizeLine)
    (body : ∀ i t D ys, items[i]? = some t → J i D ys → HC c ns' σ' tgt t D ifs elt fun zs D' => J (i + 1) D' (ys ++ zs))
    {E : Value → Shared → Prop} {RR : Value → Addr → Result → Shared → Prop}
    (hRR : ∀ D' ys acc C h' tk m', J items.length D' ys → ys.length ≤ sizeLine → ESt (c.plus [C]) ns σ D' h' → (∀ b o, b ∉ own → c.d ≠ some b → s₂.heap.get? b = some o → h'.get? b = some o) → h'.Ns C m' → acc ≠ C → s₂.heap.get? acc = none → s₂.heap.get? C = none →
      Rep (fun b => c.X b ∨ b = C) h' (.list ys) (.ref acc) → RR (.ref acc) C (.ok .next) { s₂ with heap := h', toks := tk }) :
    wpAny (model c.prog c.w) c.A (newList []) (fun acc s₃ => wpAny (model c.prog c.w) c.A (newFunctionEnv scope c.env.globals (closL c.env.cells scope.names []) [] c.env.qual none .none (some c.env)) (fun cenv s₄ =>
      codeAny (model c.prog c.w) c.A (.compStart (.ListComp elt [⟨tgt, iter, ifs, 0⟩] scope pos) 0 (.ref I) acc { cenv with scope := relabel scope c.env }) (RR acc cenv.locals) s₄) E s₃) E s₂ := by
  refine wpAny_newObj_type (wpAny_newFunctionEnv so.cell (by intro y hy; simp at hy) (fun h₁ hns₁ hsb₁ => ?_) so.kind)
  dsimp only at hns₁ hsb₁ ⊢
  generalize hH2 : s₂.heap.push { cls := .type "list", dict := none, data := .seq ([] : List Value).toArray } = H2 at hns₁ hsb₁ ⊢
  have hC : H2.objs.size = s₂.heap.objs.size + 1 := by rw [← hH2, Heap.size_push]
  generalize hacc : s₂.heap.objs.size = acc at hC ⊢
  generalize hCC : H2.objs.size = C at hns₁ hsb₁ hC ⊢
  have accN : s₂.heap.get? acc = none := Heap.get?_none_of_le (by rw [hacc]; exact Nat.le_refl _)
  have CN : s₂.heap.get? C = none := Heap.get?_none_of_le (by rw [hacc, hC]; exact Nat.le_succ _)
  have hDC : acc ≠ C := by rw [hC]; exact Nat.ne_of_lt (Nat.lt_succ_self _)
  have ne1 : ∀ b o, s₂.heap.get? b = some o → b ≠ acc ∧ b ≠ C := fun b o e => ⟨fun q => (by rw [q, accN] at e; cases e), fun q => (by rw [q, CN] at e; cases e)⟩
  have old : ∀ b o, s₂.heap.get? b = some o → h₁.get? b = some o := fun b o e => hsb₁.extBut b o (ne1 b o e).2 (Heap.get?_push_of_some _ (hH2 ▸ Heap.get?_push_of_some _ e))
  have pacc : h₁.PlainList acc ([] : List Value).toArray := ⟨0, hsb₁.extBut _ _ hDC (Heap.get?_push_of_some _ (by rw [← hH2, ← hacc]; exact Heap.get?_push_size _ rfl))⟩
  have hYo : ∀ b ∈ own ++ [C, acc], ¬ Fo c.env b ∧ c.g₀.get? b = none ∧ c.d ≠ some b := fun b hb => by
    rcases List.mem_append.mp hb with hb | hb
    · exact ⟨fun fo => IT.notX b hb (cx.inX b fo), (hg b hb)⟩
    · have bN : s₂.heap.get? b = none := by
        rcases List.mem_cons.mp hb with rfl | hb
        · exact CN
        · rw [List.mem_singleton.mp hb]; exact accN
      refine ⟨fun fo => ?_, ?_, fun q => ?_⟩
      · obtain ⟨o, e⟩ := S.live b (.inl (cx.inX b fo)); exact noS (bN) e
      · cases e : c.g₀.get? b with
        | none => rfl
        | some o => exact noS (bN) (S.base b o e)
      · obtain ⟨o, e⟩ := S.live b (.inl (hd b q)); exact noS (bN) e
  have memC : C ∈ own ++ [C, acc] := by simp
  have memA : acc ∈ own ++ [C, acc] := by simp
  have nX : ∀ b, s₂.heap.get? b = none → ¬ c.X b := fun b bN q => by obtain ⟨o, e⟩ := S.live b (.inl q); exact noS (bN) e
  have ownAcc : ∀ b ∈ own, b ≠ acc ∧ b ≠ C := fun b hb => by obtain ⟨o, e⟩ := IT.alive b hb; exact ne1 b o e
  have S₁ : ESt (c.plus (own ++ [C, acc])) ns σ D h₁ := by
    have : ESt (c.plus own) ns σ D h₁ := S.grow old
    refine { base := this.base, vars := fun x kd t a => ?_, dr := fun a q => ⟨(this.dr a q).1, .inl (hd a q), (this.dr a q).2.2⟩, cx := ⟨fun b fo => .inl (cx.inX b fo), cx.apart, cx.ne, cx.new, cx.dne⟩, live := fun b hb => ?_, ok := this.ok, gl := this.gl, room := this.room }
    · obtain ⟨v, r, rp⟩ := S.vars x kd t a
      refine ⟨v, r.keep old, Rep.keep (fun b o hx e => ⟨fun q => ?_, old b o e⟩) t v rp⟩
      rcases q with q | q
      · exact hx (.inl q)
      · rcases List.mem_append.mp q with q | q
        · exact hx (.inr q)
        · rcases List.mem_cons.mp q with rfl | q
          · exact noS (CN) e
          · rw [List.mem_singleton.mp q, accN] at e; cases e
    · rcases hb with hb | hb
      · exact this.live b (.inl hb)
      · rcases List.mem_append.mp hb with q | q
        · exact this.live b (.inr q)
        · rcases List.mem_cons.mp q with rfl | q
          · obtain ⟨o, _, _, e, _⟩ := hns₁; exact ⟨o, e⟩
          · rw [List.mem_singleton.mp q]; obtain ⟨n, e⟩ := pacc; exact ⟨_, e⟩
  have st1 : St 0 h₁ := IT.frame 0 _ _ st0 fun b o _ _ e => old b o e
  have loop : codeAny (model c.prog c.w) c.A (.compLoop (.ListComp elt [⟨tgt, iter, ifs, 0⟩] scope pos) 0 (.ref I) (.ref acc) (compEnvC scope (closL c.env.cells scope.names []) C c.env))
        (RR (.ref acc) C) { s₂ with heap := h₁, toks := s₂.toks + ([] : List (Str × Value)).length } := by
    refine compLoop_G (fun n s => ∃ i D' ys h tk m ws, n = items.length - i ∧ i ≤ items.length ∧ s = { s₂ with heap := h, toks := tk } ∧ J i D' ys ∧ ys.length ≤ i ∧ ESt (c.plus (own ++ [C, acc])) ns σ D' h ∧ St i h ∧ h.Ns C m ∧
      h.PlainList acc ws ∧ Reps (c.plus (own ++ [C, acc])).X h ys ws.toList ∧ (∀ b o, b ∉ own → c.d ≠ some b → s₂.heap.get? b = some o → h.get? b = some o)) ?_ items.length
      ⟨0, D, [], h₁, _, _, ([] : List Value).toArray, rfl, Nat.zero_le _, rfl, j0, Nat.le_refl _, S₁, st1, hns₁, pacc, Reps.nil, fun b o _ _ e => old b o e⟩
    rintro n s ⟨i, D', ys, h, tk, m, ws, rfl, hi, rfl, hJ, hys, S₂, st, hn, pa, rys, kp⟩ E'
    by_cases hlt : i < items.length
    · refine IT.item i items[i] { s₂ with heap := h, toks := tk } _ E' (by simp [hlt]) st (fun b q => S₂.live b (.inl q)) fun v h₂ tk₂ rv mid k₂ => ?_
      show wpAny _ _ (letOwnedTupleGo tgt (.ref I) v) _ _ _
      refine IT.go i v _ _ E' mid fun h₃ st₃ k₃ => ?_
      have k23 : ∀ b o, b ∉ own → h.get? b = some o → h₃.get? b = some o := fun b o hb e => k₃ b o hb (k₂ b o hb e)
      have aliveY : ∀ {h' : Heap}, (∀ b o, b ∉ own → h.get? b = some o → h'.get? b = some o) → (∀ b ∈ own, ∃ o, h'.get? b = some o) → ∀ b ∈ own ++ [C, acc], ∃ o, h'.get? b = some o := fun {h'} k ho b hb => by
        rcases List.mem_append.mp hb with q | q
        · exact ho b q
        · rcases List.mem_cons.mp q with rfl | q
          · obtain ⟨o, _, _, e, _⟩ := hn; exact ⟨o, k _ _ (fun q => (ownAcc _ q).2 rfl) e⟩
          · rw [List.mem_singleton.mp q]; obtain ⟨nn, e⟩ := pa; exact ⟨_, k _ _ (fun q => (ownAcc _ q).1 rfl) e⟩
      have S₃ : ESt (c.plus (own ++ [C, acc])) ns σ D' h₃ := S₂.nextY (fun b o hb _ e => k23 b o (fun q => hb (List.mem_append_left _ q)) e)
        (fun b hb => ⟨(hYo b hb).1, (hYo b hb).2.1, aliveY k23 (IT.keepO _ _ st₃) b hb⟩) fun a q => (S₂.dr a q).1.keep fun o e => k23 a o (fun hb => (hg a hb).2 q) e
      have hn₃ : h₃.Ns C m := Heap.Ns.one hn fun o e => k23 _ o (fun q => (ownAcc _ q).2 rfl) e
      have rv₃ : Rep (c.plus (own ++ [C, acc])).X h₃ items[i] v := Rep.keep (fun b o hx e => by
        refine ⟨fun q => ?_, k₃ b o (fun q => hx (.inr (.inl q))) e⟩
        rcases q with q | q
        · exact hx (.inl q)
        · rcases List.mem_append.mp q with q | q
          · exact hx (.inr (.inl q))
          · rcases List.mem_cons.mp q with rfl | q
            · exact hx (.inr (.inr ⟨CN, let ⟨o, _, _, e, _⟩ := hn; ⟨o, e⟩⟩))
            · rw [List.mem_singleton.mp q] at hx
              exact hx (.inr (.inr ⟨accN, let ⟨nn, e⟩ := pa; ⟨_, e⟩⟩))) _ _ rv
      obtain ⟨SI, FI⟩ := inner_est so cap S₃ memC hYo hn₃
      obtain ⟨σ'', hset, hbody⟩ := body i items[i] D' ys (by simp [hlt]) hJ
      refine target_ok (c := c.inner (compEnvC scope (closL c.env.cells scope.names []) C c.env) (c.plus (own ++ [C, acc])).X) (fun k hk => .inl hk) hset SI FI rv₃ fun h₄ tk₄ SI₄ FI₄ k₄ => ?_
      have k₄' : ∀ b o, b ≠ C → h₃.get? b = some o → h₄.get? b = some o := fun b o hb e => k₄ b o hb (fun q => nomatch q) e
      have st₄ : St (i + 1) h₄ := IT.frame _ _ _ st₃ fun b o _ he e => k₄' b o (by obtain ⟨o', e'⟩ := he; exact (ne1 b o' e').2) e
      -- what stands behind the target's store
      have keep5 : ∀ {h₅ : Heap} {D₅ : Int × Int}, ESt (c.inner (compEnvC scope (closL c.env.cells scope.names []) C c.env) (c.plus (own ++ [C, acc])).X) ns' σ'' D₅ h₅ → Kp c.d h₄ h₅ →
          ESt (c.plus (own ++ [C, acc])) ns σ D₅ h₅ ∧ St (i + 1) h₅ ∧ (∃ m, h₅.Ns C m) ∧ h₅.PlainList acc ws ∧ Reps (c.plus (own ++ [C, acc])).X h₅ ys ws.toList ∧ (∀ b o, b ∉ own → c.d ≠ some b → s₂.heap.get? b = some o → h₅.get? b = some o) := fun {h₅ D₅} S₅ k₅ => by
        have k35 : ∀ b o, b ≠ C → c.d ≠ some b → h₃.get? b = some o → h₅.get? b = some o := fun b o hb hq e => k₅ b o hq (k₄' b o hb e)
        have k25 : ∀ b o, b ∉ own → b ≠ C → c.d ≠ some b → h.get? b = some o → h₅.get? b = some o := fun b o ho hb hq e => k35 b o hb hq (k23 b o ho e)
        refine ⟨S₃.nextY (fun b o hb hq e => k35 b o (fun q => hb (by rw [q]; exact memC)) hq e) (fun b hb => ⟨(hYo b hb).1, (hYo b hb).2.1, ?_⟩) fun a q => (S₅.dr a q).1, ?_, ?_, ?_, ?_, ?_⟩
        · exact S₅.live b (.inr hb)
        · exact IT.frame _ _ _ st₄ fun b o hx _ e => k₅ b o (fun q => hx (hd b q)) e
        · obtain ⟨m', q⟩ := FI₄.has
          exact ⟨m', Heap.Ns.one q fun o e => k₅ _ o (hYo C memC).2.2 e⟩
        · exact pa.at fun o e => k25 _ o (fun q => (ownAcc _ q).1 rfl) hDC (hYo _ memA).2.2 e
        · exact Reps.keep (fun b o hx e => ⟨hx, k25 b o (fun q => hx (.inr (List.mem_append_left _ q))) (fun q => hx (.inr (by rw [q]; exact memC))) (fun q => hx (S₃.dr b q).2.1) e⟩) _ _ rys
        · exact fun b o ho hq e => k25 b o ho (ne1 b o e).2 hq (kp b o ho hq e)
      refine body_go (c := c.inner (compEnvC scope (closL c.env.cells scope.names []) C c.env) (c.plus (own ++ [C, acc])).X) (hbody _ _) (s := { s₂ with heap := h₄, toks := tk₄ })
        (Qn := fun s₄ => ∃ m, m < items.length - i ∧ _) (Qs := fun x s₅ => wpAny (model c.prog c.w) c.A (call (.builtin "list.append") [.ref acc, x]) (fun _ s₆ => ∃ m, m < items.length - i ∧ _) E' s₅) SI₄
        (fun D₅ h₅ tk₅ hp S₅ k₅ => ?_) fun t D₅ v₅ h₅ tk₅ hp S₅ k₅ r₅ => ?_
      · obtain ⟨g1, g2, ⟨m', g3⟩, g4, g5, g6⟩ := keep5 S₅ k₅
        exact ⟨items.length - (i + 1), by (exact zq56 hlt), i + 1, D₅, ys, h₅, tk₅, m', ws, rfl, hlt, rfl, by simpa using hp.2, by (exact zq417 hys), g1, g2, g3, g4, g5, g6⟩
      · obtain ⟨g1, g2, ⟨m', g3⟩, g4, g5, g6⟩ := keep5 S₅ k₅
        have hws : ws.size = ys.length := by have := g5.len; simpa using this
        refine wpAny_list_append_plain (s := { s₂ with heap := h₅, toks := tk₅ }) (hsz := by rw [hws]; (exact zq655 hsz hys hlt hws)) g4 (fun h₆ p₆ sb => ?_)
        have k6 : ∀ b o, b ≠ acc → h₅.get? b = some o → h₆.get? b = some o := fun b o hb e => sb.extBut b o hb e
        have lv6 : ∀ b, (∃ o, h₅.get? b = some o) → ∃ o, h₆.get? b = some o := fun b ⟨o, e⟩ => by
          by_cases q : b = acc
          · subst q; obtain ⟨nn, e⟩ := p₆; exact ⟨_, e⟩
          · exact ⟨o, k6 b o q e⟩
        refine ⟨items.length - (i + 1), by (exact zq56 hlt), i + 1, D₅, ys ++ [t], h₆, tk₅, m', ws.push v₅, rfl, hlt, rfl, hp.2, by simp; (exact zq537 hys hws),
          g1.nextY (fun b o hb _ e => k6 b o (fun q => hb (by rw [q]; exact memA)) e) (fun b hb => ⟨(hYo b hb).1, (hYo b hb).2.1, lv6 b (g1.live b (.inr hb))⟩) fun a q => (g1.dr a q).1.keep fun o e => k6 a o (fun q' => (hYo _ memA).2.2 (by rw [← q']; exact q)) e,
          IT.frame _ _ _ g2 fun b o _ he e => k6 b o (by obtain ⟨o', e'⟩ := he; exact (ne1 b o' e').1) e, Heap.Ns.one g3 fun o e => k6 _ o hDC.symm e, p₆, ?_, fun b o ho hq e => k6 b o (ne1 b o e).1 (g6 b o ho hq e)⟩
        rw [Array.toList_push]
        refine (Reps.append g5 (Reps.one r₅)).keep (fun b o hx e => ⟨hx, k6 b o (fun q => hx (.inr (by rw [q]; exact memA))) e⟩) _ _
    · have hie : i = items.length := by (exact zq129 hi hlt)
      subst hie
      refine IT.done { s₂ with heap := h, toks := tk } _ E' st fun h₂ tk₂ k₂ => ?_
      have S₃ : ESt (c.plus [C]) ns σ D' h₂ := S₂.off cx hd (Z := own) (Y' := [C]) (fun b hb => by rw [List.mem_singleton.mp hb]; exact memC) (fun b hb => ⟨List.mem_append_left _ hb, IT.notX b hb, fun q => (ownAcc b hb).2 (List.mem_singleton.mp q), (hg b hb).1⟩) k₂
      · refine hRR D' ys acc C h₂ tk₂ m hJ (by (exact zq585 hsz hys)) S₃ (fun b o hb hq e => k₂ b o hb (kp b o hb hq e)) (Heap.Ns.one hn fun o e => k₂ _ o (fun q => (ownAcc _ q).2 rfl) e) hDC accN CN ?_
        refine rep_list (vs := ws.toList) (fun q => q.elim (nX acc accN) hDC) ?_ (Reps.keep (fun b o hx e => ⟨fun q => hx (q.elim .inl fun q => .inr (by rw [q]; exact memC)), k₂ b o (fun q => hx (.inr (List.mem_append_left _ q))) e⟩) _ _ rys)
        obtain ⟨nn, e⟩ := pa
        exact ⟨nn, k₂ _ _ (fun q => (ownAcc _ q).1 rfl) (by simpa using e)⟩
  exact codeAny_compStart_list loop (IT.self 0 _ _ _ st1 loop)

/-- what a comprehension over the items wants of its body -/
inductive CompP (c : Cx) (ns' : Names) (σ' : Vals) (tgt : Expr) (ifs : List Expr) (elt : Expr) (Post : PV → Int × Int → Prop) (items : List PV) (D : Int × Int) : Prop
  | mk (hl : items.length ≤ sizeLine) (J : Nat → (Int × Int) → List PV → Prop) (h0 : J 0 D []) (step : ∀ i t D ys, items[i]? = some t → J i D ys → HC c ns' σ' tgt t D ifs elt fun zs D' => J (i + 1) D' (ys ++ zs))
    (fin : ∀ D' ys, J items.length D' ys → Post (.list ys) D') : CompP c ns' σ' tgt ifs elt Post items D
noncomputable def CompOk (c : Cx) (ns' : Names) (σ' : Vals) (tgt : Expr) (ifs : List Expr) (elt : Expr) (Post : PV → Int × Int → Prop) (items : List PV) (D : Int × Int) : Prop :=
  CompP c ns' σ' tgt ifs elt Post items D

theorem hn_comp {scope : Scope} {ns' : Names} {elt iter tgt : Expr} {ifs : List Expr} {pos : Pos} {Post : PV → Int × Int → Prop} (so : ScOk scope) (cap : Cap ns σ scope.names ns' σ')
    (H : HI c ns σ D iter tgt fun items D₁ => CompOk c ns' σ' tgt ifs elt Post items D₁) (hs : ∀ env x, foldedSetIterable iter env x = pure x := by intro _ _; rfl) :
    HN c ns σ D (.ListComp elt [⟨tgt, iter, ifs, 0⟩] scope pos) Post := by
  intro s Q E S K
  rw [eval_ListComp]
  refine wpAny_comprehension_free (use := none) rfl (hs _) (closureFor_eq (capClosed so cap S)) so.kind so.names (H s _ E S fun items D₁ I own St Mid h₁ tk₁ hp S₁ k₁ IT st0 hfr => ?_)
  obtain ⟨hsz, J, j0, body, fin⟩ := hp
  have hd : ∀ a, c.d = some a → c.X a := fun a q => (S.dr a q).2.1
  have hg : ∀ b ∈ own, c.g₀.get? b = none ∧ c.d ≠ some b := fun b hb => by
    refine ⟨?_, fun q => ?_⟩
    · cases e : c.g₀.get? b with
      | none => rfl
      | some o => exact noS (hfr b hb) (S.base b o e)
    · obtain ⟨_, f, ⟨o, es, ep, ho, _⟩, _⟩ := (S.dr _ q).1
      exact noS (hfr b hb) ho
  refine comp_core (s₂ := { s with heap := h₁, toks := tk₁ }) so cap S₁ S.cx hd hg IT st0 J j0 hsz body (RR := fun acc C => compPost (model c.prog c.w) c.A E none Q acc C) ?_
  intro D' ys acc C h' tk m' hJ hys S' kp hn hDC accN CN r
  refine ⟨m', hn, fun h₂ sb => ?_⟩
  have nX : ¬ c.X C := fun q => by obtain ⟨o, e⟩ := S₁.live C (.inl q); exact noS (CN) e
  have k2 : ∀ b o, b ∉ [C] → h'.get? b = some o → h₂.get? b = some o := fun b o hb e => sb.extBut b o (fun q => hb (List.mem_singleton.mpr q)) e
  have gC : c.g₀.get? C = none := by
    cases e : c.g₀.get? C with
    | none => rfl
    | some o => exact noS (CN) (S₁.base C o e)
  have S₂ : ESt c ns σ D' h₂ := (S'.off S.cx hd (Z := [C]) (Y' := []) (fun b hb => nomatch hb) (fun b hb => ⟨hb, by rw [List.mem_singleton.mp hb]; exact nX, List.not_mem_nil, by rw [List.mem_singleton.mp hb]; exact gC⟩) k2).nil S.cx hd
  refine K (.list ys) D' acc h₂ tk (fin D' ys hJ) S₂ (fun b o hq e => ?_) ((S₁.minus S.cx hd).fresh k₁ accN) (Rep.keep (fun b o hx e => ⟨fun q => hx (.inl q), k2 b o (fun q => hx (.inr (List.mem_singleton.mp q))) e⟩) _ _ r)
  have e1 := k₁ b o hq e
  exact k2 b o (fun q => by rw [List.mem_singleton.mp q, CN] at e1; cases e1) (kp b o (fun q => noS (hfr b q) e) hq e1)
end
end Mine
namespace Mine

/-- what a name holds: nothing that is known, a value, or a list that is the frame's own -/
inductive SV where
  | no
  | val (t : PV)
  | own (l : List PV)
noncomputable def SV.full : SV → Option PV
  | .no => none
  | .val t => some t
  | .own l => some (.list l)
noncomputable def SV.base : SV → Option PV
  | .val t => some t
  | _ => none
abbrev STs := List SV

abbrev AtS (ns : Names) (τ : STs) (x : Str) (k : NameKind) (v : SV) : Prop := AtG ns τ x k v
abbrev SetS (ns : Names) (τ : STs) (x : Str) (k : NameKind) (v : SV) (τ' : STs) : Prop := SetG ns τ x k v τ'

noncomputable def Full (τ : STs) (σ : Vals) : Prop := ∀ {ns : Names} {x : Str} {k : NameKind} {t : PV}, At ns σ x k t → At ns (τ.map SV.full) x k t
noncomputable def Base (τ : STs) (σ : Vals) : Prop := ∀ {ns : Names} {x : Str} {k : NameKind} {t : PV}, At ns σ x k t → At ns (τ.map SV.base) x k t
theorem Full.self (τ : STs) : Full τ (τ.map SV.full) := fun h => h
theorem Base.self (τ : STs) : Base τ (τ.map SV.base) := fun h => h
theorem Full.sub {τ : STs} {σ : Vals} (h : Full τ σ) {ns : Names} {x : Str} {k : NameKind} {t : PV} (a : At ns σ x k t) : At ns (τ.map SV.full) x k t := h a
theorem Base.sub {τ : STs} {σ : Vals} (h : Base τ σ) {ns : Names} {x : Str} {k : NameKind} {t : PV} (a : At ns σ x k t) : At ns (τ.map SV.base) x k t := h a

theorem AtS.of_full {x : Str} {k : NameKind} {t : PV} {ns : Names} {τ : STs} (a : At ns (τ.map SV.full) x k t) : AtS ns τ x k (.val t) ∨ ∃ l, t = .list l ∧ AtS ns τ x k (.own l) := by
  obtain ⟨v, e, b⟩ := AtG.of_map a
  cases v with
  | no => cases e
  | val t' => cases e; exact .inl b
  | own l => cases e; exact .inr ⟨l, rfl, b⟩
theorem AtS.of_base {x : Str} {k : NameKind} {t : PV} {ns : Names} {τ : STs} (a : At ns (τ.map SV.base) x k t) : AtS ns τ x k (.val t) := by
  obtain ⟨v, e, b⟩ := AtG.of_map a
  cases v with
  | no => cases e
  | val t' => cases e; exact b
  | own l => cases e
theorem AtS.base {x : Str} {k : NameKind} {t : PV} {ns : Names} {τ : STs} (a : AtS ns τ x k (.val t)) : At ns (τ.map SV.base) x k t := AtG.map SV.base a
theorem SetS.base {ns : Names} {τ τ' : STs} {x : Str} {k : NameKind} {t : PV} (h : SetS ns τ x k (.val t) τ') : SetAt ns (τ.map SV.base) x k t (τ'.map SV.base) := SetG.map SV.base h
theorem SetS.dd {ns : Names} {τ τ' : STs} {x : Str} {k : NameKind} {v : SV} (t : PV) (h : SetS ns τ x k v τ') : ∃ σ', SetAt ns (τ.map SV.base) x k t σ' := by
  obtain ⟨i, hi, hl, _⟩ := h
  exact ⟨_, i, hi, by rw [List.length_map]; exact hl, rfl⟩

structure SSt (c : Cx) (hb : Heap) (W : Addr → Prop) (ow : List (Str × Addr)) (ns : Names) (τ : STs) (D : Int × Int) (h : Heap) : Prop where
  base : ESt (c.plus (ow.map (·.2))) ns (τ.map SV.base) D h
  own : ∀ x k l, AtS ns τ x k (.own l) → ∃ a vs, (x, a) ∈ ow ∧ Reads c.env h x (.ref a) k ∧ h.PlainList a vs.toArray ∧ Reps (c.plus (ow.map (·.2))).X h l vs
  apart : ow.Pairwise fun p q => p.2 ≠ q.2
  fresh : ∀ p ∈ ow, (W p.2 ∨ hb.get? p.2 = none) ∧ ¬ c.X p.2 ∧ c.g₀.get? p.2 = none ∧ c.d ≠ some p.2
  fr : FrOk c ns h
  kp : ∀ b o, ¬ W b → hb.get? b = some o → h.get? b = some o
  cx : CxOk c
  dX : ∀ a, c.d = some a → c.X a ∧ W a
  fo : ∀ b, Fo c.env b → W b ∨ hb.get? b = none
  lv : ∀ b, (∃ o, hb.get? b = some o) → ∃ o, h.get? b = some o

section
variable {c : Cx} {hb : Heap} {W : Addr → Prop} {ow : List (Str × Addr)} {ns : Names} {τ τ' : STs} {D D' : Int × Int} {h h' : Heap}

theorem ESt.sub {σ σ' : Vals} (S : ESt c ns σ D h) (k : ∀ x kd t, At ns σ' x kd t → At ns σ x kd t) : ESt c ns σ' D h where
  base := S.base
  vars := fun x kd t a => S.vars x kd t (k x kd t a)
  dr := S.dr
  cx := S.cx
  live := S.live
  ok := S.ok
  gl := S.gl
  room := S.room

theorem pair_addr {p q : Str × Addr} (ap : ow.Pairwise fun p q => p.2 ≠ q.2) (hp : p ∈ ow) (hq : q ∈ ow) (e : p.2 = q.2) : p = q := by
  induction ap with
  | nil => cases hp
  | cons h _ ih =>
    rcases List.mem_cons.mp hp with rfl | hp'
    · rcases List.mem_cons.mp hq with rfl | hq'
      · rfl
      · exact absurd e (h q hq')
    · rcases List.mem_cons.mp hq with rfl | hq'
      · exact absurd e.symm (h p hp')
      · exact ih hp' hq'

theorem SSt.foY (S : SSt c hb W ow ns τ D h) : ∀ p ∈ ow, ¬ Fo c.env p.2 := fun p hp fo => (S.fresh p hp).2.1 (S.cx.inX _ fo)
theorem SSt.inY {p : Str × Addr} (hp : p ∈ ow) : p.2 ∈ ow.map (·.2) := List.mem_map.mpr ⟨p, hp, rfl⟩

theorem SSt.full {σ : Vals} (S : SSt c hb W ow ns τ D h) (hf : Full τ σ) : ESt c ns σ D h := by
  refine ESt.sub (σ := τ.map SV.full) ?_ fun x k t a => hf.sub a
  refine { base := S.base.base, vars := fun x k t a => ?_, dr := fun a q => ⟨(S.base.dr a q).1, (S.dX a q).1, (S.base.dr a q).2.2⟩, cx := S.cx, live := fun b hb => S.base.live b (.inl hb), ok := S.base.ok, gl := S.base.gl, room := S.base.room }
  rcases AtS.of_full a with a' | ⟨l, rfl, a'⟩
  · obtain ⟨v, r, rp⟩ := S.base.vars x k t (AtS.base a')
    exact ⟨v, r, Rep.keep (fun b o hx e => ⟨fun q => hx (.inl q), e⟩) t v rp⟩
  · obtain ⟨ad, vs, hm, r, pl, rr⟩ := S.own x k l a'
    exact ⟨_, r, rep_list (S.fresh _ hm).2.1 pl (Reps.keep (fun b o hx e => ⟨fun q => hx (.inl q), e⟩) _ _ rr)⟩

/-- behind a reckoning -/
theorem SSt.next (S : SSt c hb W ow ns τ D h) (k : Kp c.d h h') (dr : ∀ a, c.d = some a → DrawsAt c.prog c.w h' a D') : SSt c hb W ow ns τ D' h' where
  base := S.base.next k dr
  own := fun x kd l a => by
    obtain ⟨ad, vs, hm, r, pl, rr⟩ := S.own x kd l a
    exact ⟨ad, vs, hm, fo_reads r fun b o fo e => k b o (S.cx.dne b fo) e, pl.at fun o e => k _ o (S.fresh _ hm).2.2.2 e, Rep.kpl S rr k⟩
  apart := S.apart
  fresh := S.fresh
  fr := S.fr.kp S.cx k
  kp := fun b o hw e => k b o (fun q => hw (S.dX b q).2) (S.kp b o hw e)
  cx := S.cx
  dX := S.dX
  fo := S.fo
  lv := fun b hb' => by
    by_cases q : c.d = some b
    · obtain ⟨_, f, ⟨o, es, ep, ho, r⟩, x2⟩ := dr b q
      exact ⟨o, ho⟩
    · obtain ⟨o, e⟩ := S.lv b hb'
      exact ⟨o, k b o q e⟩
where
  Rep.kpl (S : SSt c hb W ow ns τ D h) {l : List PV} {vs : List Value} (rr : Reps (c.plus (ow.map (·.2))).X h l vs) (k : Kp c.d h h') : Reps (c.plus (ow.map (·.2))).X h' l vs :=
    Reps.kp k (fun a q => .inl (S.dX a q).1) _ _ rr

/-- new addresses that the frame may call its own -/
theorem SSt.reserveL (S : SSt c hb W ow ns τ D h) (k : Kp c.d h h') (dr : ∀ a, c.d = some a → DrawsAt c.prog c.w h' a D') (nw : List (Str × Addr)) (ha : ∀ p ∈ nw, h.get? p.2 = none ∧ ∃ o, h'.get? p.2 = some o) (ap : nw.Pairwise fun p q => p.2 ≠ q.2) : SSt c hb W (nw ++ ow) ns τ D' h' := by
  have S' := S.next k dr
  have nX : ∀ p ∈ nw, ¬ c.X p.2 := fun p hp q => by obtain ⟨o, e⟩ := S.base.live p.2 (.inl q); exact noS ((ha p hp).1) e
  have nY : ∀ p ∈ nw, p.2 ∉ ow.map (·.2) := fun p hp q => by obtain ⟨o, e⟩ := S.base.live p.2 (.inr q); exact noS ((ha p hp).1) e
  have inn : ∀ b, b ∈ (nw ++ ow).map (·.2) → (∃ p ∈ nw, p.2 = b) ∨ b ∈ ow.map (·.2) := fun b hb => by
    rw [List.map_append] at hb
    exact (List.mem_append.mp hb).imp (fun q => List.mem_map.mp q) id
  have off : ∀ b o, ¬ (c.plus (ow.map (·.2))).X b → h.get? b = some o → ¬ (c.plus ((nw ++ ow).map (·.2))).X b ∧ h'.get? b = some o := fun b o hx e => by
    refine ⟨fun q => ?_, k b o (fun q => hx (.inl (S.dX b q).1)) e⟩
    rcases q with q | q
    · exact hx (.inl q)
    · rcases inn b q with ⟨p, hp, rfl⟩ | q
      · exact noS ((ha p hp).1) e
      · exact hx (.inr q)
  exact
  { base := { base := S'.base.base
              vars := fun y kd t at' => by
                obtain ⟨v, r, rp⟩ := S.base.vars y kd t at'
                exact ⟨v, fo_reads r fun b o fo e => k b o (S.cx.dne b fo) e, Rep.keep off t v rp⟩
              dr := fun b q => ⟨dr b q, .inl (S.dX b q).1, (S.base.dr b q).2.2⟩
              cx := ⟨fun b q => .inl (S.cx.inX b q), S.cx.apart, S.cx.ne, S.cx.new, S.cx.dne⟩
              live := fun b hb => by
                rcases hb with q | q
                · exact S'.base.live b (.inl q)
                · rcases inn b q with ⟨p, hp, rfl⟩ | q
                  · exact (ha p hp).2
                  · exact S'.base.live b (.inr q)
              ok := S.base.ok
              gl := S.base.gl
              room := S.base.room }
    own := fun y kd l at' => by
      obtain ⟨ad, vs, hm, r, pl, rr⟩ := S.own y kd l at'
      exact ⟨ad, vs, List.mem_append_right _ hm, fo_reads r fun b o fo e => k b o (S.cx.dne b fo) e, pl.at fun o e => k _ o (S.fresh _ hm).2.2.2 e, Reps.keep off _ _ rr⟩
    apart := List.pairwise_append.mpr ⟨ap, S.apart, fun p hp q hq e => nY p hp (by rw [e]; exact SSt.inY hq)⟩
    fresh := fun p hp => by
      rcases List.mem_append.mp hp with hp | hp
      · refine ⟨?_, nX p hp, ?_, fun q => nX p hp (S.dX _ q).1⟩
        · by_cases w : W p.2
          · exact .inl w
          · cases e : hb.get? p.2 with
            | none => exact .inr rfl
            | some o => exact noS ((ha p hp).1) (S.kp _ o w e)
        · cases e : c.g₀.get? p.2 with
          | none => rfl
          | some o => exact noS ((ha p hp).1) (S.base.base _ o e)
      · exact S.fresh p hp
    fr := S'.fr
    kp := S'.kp
    cx := S.cx
    dX := S.dX
    fo := S.fo
    lv := S'.lv }
theorem SSt.reserve (S : SSt c hb W ow ns τ D h) (k : Kp c.d h h') (dr : ∀ a, c.d = some a → DrawsAt c.prog c.w h' a D') {x : Str} {a : Addr} (ha : h.get? a = none) (la : ∃ o, h'.get? a = some o) : SSt c hb W ((x, a) :: ow) ns τ D' h' :=
  S.reserveL k dr [(x, a)] (fun p hp => by rw [List.mem_singleton.mp hp]; exact ⟨ha, la⟩) (List.pairwise_singleton _ _)

/-- a store of a value into a name -/
theorem sst_store {x : Str} {k : NameKind} {t : PV} {v : Value} (sa : SetS ns τ x k (.val t) τ') (hk : k = .local ∨ k = .cell) {s : Shared} {Q : Unit → Shared → Prop} {E : Value → Shared → Prop}
    (S : SSt c hb W ow ns τ D s.heap) (r : Rep (c.plus (ow.map (·.2))).X s.heap t v)
    (K : ∀ h' tk, SSt c hb W ow ns τ' D h' → (∀ b o, ¬ Fo c.env b → s.heap.get? b = some o → h'.get? b = some o) → Q () { s with heap := h', toks := tk }) :
    wpAny (model c.prog c.w) c.A (storeName c.env x v) Q E s := by
  refine store_ok (c := c.plus (ow.map (·.2))) sa.base hk S.base ⟨S.fr.nd, S.fr.has, S.fr.cell⟩ r fun h' tk S' F' kp rds => ?_
  have kp' : ∀ b o, ¬ Fo c.env b → s.heap.get? b = some o → h'.get? b = some o := fun b o nf e => kp b o (fun _ q => nf (.inl q)) (fun _ n q => nf (.inr ⟨n, q⟩)) e
  refine K h' tk ⟨S', fun y kd l a => ?_, S.apart, S.fresh, ⟨F'.nd, F'.has, F'.cell⟩, fun b o hw e => ?_, S.cx, S.dX, S.fo, fun b hb' => by
    obtain ⟨o, e⟩ := S.lv b hb'
    by_cases fo : Fo c.env b
    · exact S'.live b (.inl (S.cx.inX b fo))
    · exact ⟨o, kp' b o fo e⟩⟩ kp'
  · rcases sa.read S.fr.nd a with ⟨_, _, e⟩ | ⟨hne, a'⟩
    · cases e
    · obtain ⟨ad, vs, hm, r, pl, rr⟩ := S.own y kd l a'
      exact ⟨ad, vs, hm, rds y kd _ hne r, pl.at fun o e => kp' _ o (S.foY _ hm) e, Reps.keep (fun b o hx e => ⟨hx, kp' b o (fun fo => hx (.inl (S.cx.inX b fo))) e⟩) _ _ rr⟩
  · exact kp' b o (fun fo => (S.fo b fo).elim hw fun q => noS (q) e) (S.kp b o hw e)

/-- a store of a list of its own -/
theorem sst_own {x : Str} {k : NameKind} {l : List PV} {a : Addr} {vs : List Value} (sa : SetS ns τ x k (.own l) τ') (hk : k = .local ∨ k = .cell) {s : Shared} {Q : Unit → Shared → Prop} {E : Value → Shared → Prop}
    (S : SSt c hb W ow ns τ D s.heap) (hm : (x, a) ∈ ow) (pl : s.heap.PlainList a vs.toArray) (r : Reps (c.plus (ow.map (·.2))).X s.heap l vs)
    (K : ∀ h' tk, SSt c hb W ow ns τ' D h' → (∀ b o, ¬ Fo c.env b → s.heap.get? b = some o → h'.get? b = some o) → Q () { s with heap := h', toks := tk }) :
    wpAny (model c.prog c.w) c.A (storeName c.env x (.ref a)) Q E s := by
  obtain ⟨σ', sd⟩ := sa.dd (.dd a)
  refine store_ok (c := c.plus (ow.map (·.2))) sd hk S.base ⟨S.fr.nd, S.fr.has, S.fr.cell⟩ (show Rep _ _ (.dd a) (.ref a) from rfl) fun h' tk S' F' kp rds => ?_
  have kp' : ∀ b o, ¬ Fo c.env b → s.heap.get? b = some o → h'.get? b = some o := fun b o nf e => kp b o (fun _ q => nf (.inl q)) (fun _ n q => nf (.inr ⟨n, q⟩)) e
  have ups : ∀ {t : List PV} {v : List Value}, Reps (c.plus (ow.map (·.2))).X s.heap t v → Reps (c.plus (ow.map (·.2))).X h' t v := fun {t v} rr => Reps.keep (fun b o hx e => ⟨hx, kp' b o (fun fo => hx (.inl (S.cx.inX b fo))) e⟩) _ _ rr
  have rx : Reads c.env h' x (.ref a) k := by
    have : At ns σ' x k (.dd a) := sd.self
    obtain ⟨v, r1, r2⟩ := S'.vars x k _ this
    have r2 : v = .ref a := r2
    subst r2; exact r1
  refine K h' tk ⟨S'.sub fun y kd t at' => ?_, fun y kd l' at' => ?_, S.apart, S.fresh, ⟨F'.nd, F'.has, F'.cell⟩, fun b o hw e => ?_, S.cx, S.dX, S.fo, fun b hb' => by
    obtain ⟨o, e⟩ := S.lv b hb'
    by_cases fo : Fo c.env b
    · exact S'.live b (.inl (S.cx.inX b fo))
    · exact ⟨o, kp' b o fo e⟩⟩ kp'
  · rcases sa.read S.fr.nd (AtS.of_base at') with ⟨_, _, e⟩ | ⟨hne, a'⟩
    · cases e
    · exact sd.back hne (AtS.base a')
  · rcases sa.read S.fr.nd at' with ⟨rfl, rfl, e⟩ | ⟨hne, a'⟩
    · cases e
      exact ⟨a, vs, hm, rx, pl.at fun o e => kp' _ o (S.foY _ hm) e, ups r⟩
    · obtain ⟨ad, vs, hm, r, pl, rr⟩ := S.own y kd l' a'
      exact ⟨ad, vs, hm, rds y kd _ hne r, pl.at fun o e => kp' _ o (S.foY _ hm) e, ups rr⟩
  · exact kp' b o (fun fo => (S.fo b fo).elim hw fun q => noS (q) e) (S.kp b o hw e)

/-- a change of an own list -/
theorem SSt.mut {x : Str} {k : NameKind} {l l' : List PV} {a : Addr} {ws : List Value} (S : SSt c hb W ow ns τ D h) (at' : AtS ns τ x k (.own l)) (hm : (x, a) ∈ ow) (rd : Reads c.env h x (.ref a) k) (sa : SetS ns τ x k (.own l') τ')
    (sb : ∀ b o, b ≠ a → h.get? b = some o → h'.get? b = some o) (pl : h'.PlainList a ws.toArray) (r : Reps (c.plus (ow.map (·.2))).X h l' ws) : SSt c hb W ow ns τ' D h' := by
  have memA := SSt.inY hm
  have fa := S.fresh _ hm
  have foA : ∀ b, Fo c.env b → b ≠ a := fun b fo q => S.foY _ hm (by rw [← q]; exact fo)
  have ups : ∀ {t : List PV} {v : List Value}, Reps (c.plus (ow.map (·.2))).X h t v → Reps (c.plus (ow.map (·.2))).X h' t v := fun {t v} rr => Reps.keep (fun b o hx e => ⟨hx, sb b o (fun q => hx (.inr (by rw [q]; exact memA))) e⟩) _ _ rr
  have lv : ∀ b, (∃ o, h.get? b = some o) → ∃ o, h'.get? b = some o := fun b ⟨o, e⟩ => by
    by_cases q : b = a
    · subst q; obtain ⟨n, e⟩ := pl; exact ⟨_, e⟩
    · exact ⟨o, sb b o q e⟩
  have B : ESt (c.plus (ow.map (·.2))) ns (τ.map SV.base) D h' := S.base.nextY (fun b o hb _ e => sb b o (fun q => hb (by rw [q]; exact memA)) e)
    (fun b hb => by obtain ⟨p, hp, rfl⟩ := List.mem_map.mp hb; exact ⟨S.foY p hp, (S.fresh p hp).2.2.1, lv _ (S.base.live _ (.inr hb))⟩)
    fun b q => (S.base.dr b q).1.keep fun o e => sb b o (fun q' => fa.2.2.2 (by rw [← q']; exact q)) e
  refine ⟨B.sub fun y kd t at' => ?_, fun y kd l₂ at₂ => ?_, S.apart, S.fresh, S.fr.keep fun b o fo e => sb b o (foA b fo) e, fun b o hw e => ?_, S.cx, S.dX, S.fo, fun b hb' => lv b (S.lv b hb')⟩
  · rcases sa.read S.fr.nd (AtS.of_base at') with ⟨_, _, e⟩ | ⟨hne, a'⟩
    · cases e
    · exact (AtS.base a')
  · rcases sa.read S.fr.nd at₂ with ⟨rfl, rfl, e⟩ | ⟨hne, a'⟩
    · cases e
      exact ⟨a, ws, hm, fo_reads rd fun b o fo e => sb b o (foA b fo) e, pl, ups r⟩
    · obtain ⟨ad, vs, hm', r, pl, rr⟩ := S.own y kd l₂ a'
      refine ⟨ad, vs, hm', fo_reads r fun b o fo e => sb b o (foA b fo) e, pl.at fun o e => sb _ o (fun q => hne ?_) e, ups rr⟩
      exact congrArg Prod.fst (pair_addr S.apart hm' hm q)
  · refine sb b o (fun q => ?_) (S.kp b o hw e)
    subst q
    rcases fa.1 with w | w
    · exact hw w
    · exact noS (show hb.get? b = none from w) e

/-- an own list is let out -/
theorem SSt.freeze {x : Str} {k : NameKind} {l : List PV} (S : SSt c hb W ow ns τ D h) (at' : AtS ns τ x k (.own l)) (sa : SetS ns τ x k (.val (.list l)) τ') : ∃ ow', SSt c hb W ow' ns τ' D h := by
  obtain ⟨a, vs, hm, rd, pl, rr⟩ := S.own x k l at'
  refine ⟨ow.filter fun p => decide (p.2 ≠ a), ?_⟩
  have inn : ∀ p, p ∈ ow.filter (fun p => decide (p.2 ≠ a)) ↔ p ∈ ow ∧ p.2 ≠ a := fun p => by simp [List.mem_filter]
  have sub : ∀ b, b ∈ (ow.filter fun p => decide (p.2 ≠ a)).map (·.2) → b ∈ ow.map (·.2) := fun b hb => by
    obtain ⟨p, hp, rfl⟩ := List.mem_map.mp hb
    exact SSt.inY ((inn p).mp hp).1
  have up : ∀ {t : PV} {v : Value}, Rep (c.plus (ow.map (·.2))).X h t v → Rep (c.plus ((ow.filter fun p => decide (p.2 ≠ a)).map (·.2))).X h t v := fun {t v} r => Rep.keep (fun b o hx e => ⟨fun q => hx (q.elim .inl fun q => .inr (sub b q)), e⟩) t v r
  have ups : ∀ {t : List PV} {v : List Value}, Reps (c.plus (ow.map (·.2))).X h t v → Reps (c.plus ((ow.filter fun p => decide (p.2 ≠ a)).map (·.2))).X h t v := fun {t v} r => Reps.keep (fun b o hx e => ⟨fun q => hx (q.elim .inl fun q => .inr (sub b q)), e⟩) t v r
  refine { base := { base := S.base.base, vars := fun y kd t at₂ => ?_, dr := fun b q => ⟨(S.base.dr b q).1, .inl (S.dX b q).1, (S.base.dr b q).2.2⟩, cx := ⟨fun b q => .inl (S.cx.inX b q), S.cx.apart, S.cx.ne, S.cx.new, S.cx.dne⟩, live := fun b hb => S.base.live b (hb.elim .inl fun q => .inr (sub b q)), ok := S.base.ok, gl := S.base.gl, room := S.base.room }, own := fun y kd l₂ at₂ => ?_, apart := S.apart.sublist List.filter_sublist, fresh := fun p hp => S.fresh p ((inn p).mp hp).1, fr := S.fr, kp := S.kp, cx := S.cx, dX := S.dX, fo := S.fo, lv := S.lv }
  · rcases sa.read S.fr.nd (AtS.of_base at₂) with ⟨rfl, rfl, e⟩ | ⟨hne, a'⟩
    · cases e
      refine ⟨_, rd, rep_list (fun q => ?_) pl (ups rr)⟩
      rcases q with q | q
      · exact (S.fresh _ hm).2.1 q
      · obtain ⟨p, hp, e⟩ := List.mem_map.mp q
        exact ((inn p).mp hp).2 e
    · obtain ⟨v, r, rp⟩ := S.base.vars y kd t (AtS.base a')
      exact ⟨v, r, up rp⟩
  · rcases sa.read S.fr.nd at₂ with ⟨_, _, e⟩ | ⟨hne, a'⟩
    · cases e
    · obtain ⟨ad, vs', hm', r, pl', rr'⟩ := S.own y kd l₂ a'
      exact ⟨ad, vs', (inn _).mpr ⟨hm', fun q => hne (congrArg Prod.fst (pair_addr S.apart hm' hm q))⟩, r, pl', ups rr'⟩
end
end Mine
namespace Mine

noncomputable def flat : PV → Prop
  | .int _ => True
  | .bool _ => True
  | .none => True
  | _ => False
theorem flat.rep {X X' : Addr → Prop} {h h' : Heap} : ∀ {t : PV} {v : Value}, flat t → Rep X h t v → Rep X' h' t v
  | .int _, _, _, r => r
  | .bool _, _, _, r => r
  | .none, _, _, r => r
  | .dd _, _, f, _ => f.elim
  | .list _, _, f, _ => f.elim
  | .tup _, _, f, _ => f.elim
theorem flat.reps {X X' : Addr → Prop} {h h' : Heap} : ∀ {l : List PV} {vs : List Value}, (∀ t ∈ l, flat t) → Reps X h l vs → Reps X' h' l vs
  | [], _, _, r => r
  | t :: l, vs, f, r => by
    obtain ⟨v, r', rfl, h1, h2⟩ := r
    exact Reps.cons ((f t List.mem_cons_self).rep h1) (flat.reps (fun t ht => f t (List.mem_cons_of_mem _ ht)) h2)
theorem flat_il {l : List Int} : ∀ t ∈ il l, flat t := fun t ht => by
  obtain ⟨i, _, rfl⟩ := List.mem_map.mp ht; trivial

noncomputable def Cx.inX (c : Cx) (X : Addr → Prop) : Cx := { c with X := X }
abbrev yof (ow : List (Str × Addr)) : List Addr := ow.map (·.2)

/-- an expression whose value leans on no list of the frame's own -/
noncomputable def HA (c : Cx) (ns : Names) (τ : STs) (D : Int × Int) (e : Expr) (P : PV → Int × Int → Prop) : Prop :=
  ∀ (hb : Heap) (W : Addr → Prop) (ow : List (Str × Addr)) (s : Shared) (Q : Value → Shared → Prop) (E : Value → Shared → Prop), SSt c hb W ow ns τ D s.heap →
    (∀ t D' v h' tk, P t D' → SSt c hb W ow ns τ D' h' → Kp c.d s.heap h' → Rep (c.plus (yof ow)).X h' t v → Q v { s with heap := h', toks := tk }) →
    wpAny (model c.prog c.w) c.A (eval e c.env) Q E s

/-- a new list, for the name x -/
noncomputable def HO (c : Cx) (ns : Names) (τ : STs) (D : Int × Int) (x : Str) (e : Expr) (P : List PV → Int × Int → Prop) : Prop :=
  ∀ (hb : Heap) (W : Addr → Prop) (ow : List (Str × Addr)) (s : Shared) (Q : Value → Shared → Prop) (E : Value → Shared → Prop), SSt c hb W ow ns τ D s.heap →
    (∀ l D' a vs h' tk, P l D' → SSt c hb W ((x, a) :: ow) ns τ D' h' → Kp c.d s.heap h' → h'.PlainList a vs.toArray → Reps (c.plus (yof ((x, a) :: ow))).X h' l vs → Q (.ref a) { s with heap := h', toks := tk }) →
    wpAny (model c.prog c.w) c.A (eval e c.env) Q E s

abbrev SN := STs → Int × Int → Prop
abbrev SR := PV → Int × Int → Prop

noncomputable def HX (c : Cx) (ns : Names) (τ : STs) (D : Int × Int) (m : Sem Flow) (N : SN) (R : SR) : Prop :=
  ∀ (hb : Heap) (W : Addr → Prop) (ow : List (Str × Addr)) (s : Shared) (Q : Flow → Shared → Prop) (E : Value → Shared → Prop), SSt c hb W ow ns τ D s.heap →
    (∀ τ' D' ow' h' tk, N τ' D' → SSt c hb W ow' ns τ' D' h' → Q .next { s with heap := h', toks := tk }) →
    (∀ t D' v h' tk, R t D' → (∀ b o, ¬ W b → hb.get? b = some o → h'.get? b = some o) → (∀ a, c.d = some a → DrawsAt c.prog c.w h' a D') → Rep c.X h' t v → Q (.ret v) { s with heap := h', toks := tk }) →
    wpAny (model c.prog c.w) c.A m Q E s
/-- a statement -/
abbrev HS (c : Cx) (ns : Names) (τ : STs) (D : Int × Int) (st : Stmt) (N : SN) (R : SR) : Prop := HX c ns τ D (exec st c.env) N R
/-- several -/
abbrev HSs (c : Cx) (ns : Names) (τ : STs) (D : Int × Int) (sts : List Stmt) (N : SN) (R : SR) : Prop := HX c ns τ D (execs sts c.env) N R

section
variable {c : Cx} {ns : Names} {τ : STs} {D : Int × Int} {e : Expr} {st : Stmt} {sts : List Stmt} {N N' : SN} {R R' : SR} {σ : Vals}

theorem HX.mono {m : Sem Flow} (H : HX c ns τ D m N' R') (hn : ∀ τ D, N' τ D → N τ D) (hr : ∀ t D, R' t D → R t D) : HX c ns τ D m N R :=
  fun hb W ow s Q E S KN KR => H hb W ow s Q E S (fun τ' D' ow' h' tk p => KN τ' D' ow' h' tk (hn τ' D' p)) fun t D' v h' tk p => KR t D' v h' tk (hr t D' p)

inductive NewP (P : PV → Int × Int → Prop) (t : PV) (D : Int × Int) : Prop
  | mk (l : List PV) (e : t = .list l) (p : (∀ x ∈ l, flat x) ∧ P t D) : NewP P t D
inductive NewOP (P : List PV → Int × Int → Prop) (t : PV) (D : Int × Int) : Prop
  | mk (l : List PV) (e : t = .list l) (p : (∀ x ∈ l, flat x) ∧ P l D) : NewOP P t D
inductive AsP (ns : Names) (τ : STs) (x : Str) (N : SN) (v : SV) (D : Int × Int) : Prop
  | mk (k : NameKind) (τ' : STs) (sa : SetS ns τ x k v τ') (hk : LC k) (p : N τ' D) : AsP ns τ x N v D
inductive SubP (ns : Names) (τ : STs) (x : Str) (k : NameKind) (a : Int) (N : SN) (t : PV) (D : Int × Int) : Prop
  | mk (b : Int) (e : t = .int b) (p : ∃ τ', SetS ns τ x k (.val (.int (a - b))) τ' ∧ LC k ∧ N τ' D) : SubP ns τ x k a N t D
inductive LtI (I : Nat → STs → Int × Int → Prop) (n : Nat) (τ : STs) (D : Int × Int) : Prop
  | mk (m : Nat) (h : m < n) (p : I m τ D) : LtI I n τ D
theorem ha_base {P : PV → Int × Int → Prop} (hf : Base τ σ) (H : ∀ X, HE (c.inX X) ns σ D e P) : HA c ns τ D e P := fun hb W ow s Q E S K => by
  exact H (c.plus (yof ow)).X s Q E (S.base.sub fun x k t a => hf.sub a) fun t D' v h' tk p S' k r => K t D' v h' tk p (S.next k fun a q => (S'.dr a q).1) k r
theorem ha_flat {P : PV → Int × Int → Prop} (hf : Full τ σ) (H : HE c ns σ D e fun t D' => flat t ∧ P t D') : HA c ns τ D e P := fun hb W ow s Q E S K =>
  H s Q E (S.full hf) fun t D' v h' tk p S' k r => K t D' v h' tk p.2 (S.next k fun a q => (S'.dr a q).1) k (p.1.rep r)
theorem HA.mono {P P' : PV → Int × Int → Prop} (H : HA c ns τ D e P') (k : ∀ t D, P' t D → P t D) : HA c ns τ D e P :=
  fun hb W ow s Q E S K => H hb W ow s Q E S fun t D' v h' tk p => K t D' v h' tk (k t D' p)
theorem ha_new {P : PV → Int × Int → Prop} (hf : Full τ σ) (H : HN c ns σ D e (NewP P)) : HA c ns τ D e P := fun hb W ow s Q E S K =>
  H s Q E (S.full hf) fun t D' a h' tk p S' k fr r => by
    obtain ⟨l, rfl, fl, p⟩ := p
    obtain ⟨a', vs, e, hx, pl, rr⟩ := r
    cases e
    refine K (.list l) D' _ h' tk p (S.next k fun a q => (S'.dr a q).1) k (rep_list (fun q => ?_) pl (flat.reps fl rr))
    rcases q with q | q
    · exact hx q
    · obtain ⟨o, e⟩ := S.base.live a (.inr q)
      exact noS (fr) e
theorem ho_flat {x : Str} {P : List PV → Int × Int → Prop} (hf : Full τ σ) (H : HN c ns σ D e (NewOP P)) : HO c ns τ D x e P := fun hb W ow s Q E S K =>
  H s Q E (S.full hf) fun t D' a h' tk p S' k fr r => by
    obtain ⟨l, rfl, fl, p⟩ := p
    obtain ⟨a', vs, e, hx, pl, rr⟩ := r
    cases e
    exact K l D' a vs h' tk p (S.reserve k (fun a q => (S'.dr a q).1) fr (let ⟨n, e⟩ := pl; ⟨_, e⟩)) k pl (flat.reps fl rr)
/-- a new list of lists of ints -/
theorem ho_rows {x : Str} {P : List PV → Int × Int → Prop} (hf : Full τ σ) (H : HN c ns σ D e fun t D' => ∃ l : List (List Int), t = .list (l.map fun r => .list (il r)) ∧ P (l.map fun r => .list (il r)) D') (hno : ∀ v ∈ τ, ∀ l, v ≠ .own l) (hown : True) :
    ∀ (hb : Heap) (W : Addr → Prop) (s : Shared) (Q : Value → Shared → Prop) (E : Value → Shared → Prop), SSt c hb W [] ns τ D s.heap →
    (∀ l D' a vs h' tk, P l D' → SSt c hb W [(x, a)] ns τ D' h' → Kp c.d s.heap h' → h'.PlainList a vs.toArray → Reps (c.plus (yof [(x, a)])).X h' l vs → Q (.ref a) { s with heap := h', toks := tk }) →
    wpAny (model c.prog c.w) c.A (eval e c.env) Q E s := fun hb W s Q E S K =>
  H s Q E (S.full hf) fun t D' a h' tk p S' k fr r => by
    obtain ⟨l, rfl, p⟩ := p
    obtain ⟨a', vs, e, hx, pl, rr⟩ := r
    cases e
    refine K _ D' a vs h' tk p (S.reserve k (fun a q => (S'.dr a q).1) fr (let ⟨n, e⟩ := pl; ⟨_, e⟩)) k pl (reps_iff.mpr ⟨rr.len, fun i t v h1 h2 => ?_⟩)
    have r1 := (reps_iff.mp rr).2 i t v h1 h2
    rw [List.getElem?_map, Option.map_eq_some_iff] at h1
    obtain ⟨row, hrow, rfl⟩ := h1
    obtain ⟨b, ws, rfl, hxb, plb, rw'⟩ := r1
    refine rep_list (fun q => ?_) plb (flat.reps flat_il rw')
    rcases q with q | q
    · exact hxb q
    · have q : b = a := List.mem_singleton.mp q
      subst q
      obtain ⟨n, e1⟩ := pl
      obtain ⟨n', e2⟩ := plb
      rw [e1] at e2
      have e3 : vs = ws := by
        have := congrArg Obj.data (Option.some.inj e2)
        simp only [Data.seq.injEq] at this
        simpa using congrArg Array.toList this.1
      subst e3
      have : i < row.length := by
        have := rw'.len
        have h3 := (List.getElem?_eq_some_iff.mp h2).1
        simpa [this] using h3
      have := (reps_iff.mp rw').2 i (.int row[i]) _ (by simp [this]) h2
      obtain ⟨tk, e⟩ := this
      cases e

theorem hss_nil (h : N τ D) : HSs c ns τ D [] N R := fun hb W ow s Q E S KN KR => wpAny_execs_nil (KN τ D ow s.heap s.toks h S)
theorem hss_cons (H : HS c ns τ D st (fun τ' D' => HSs c ns τ' D' sts N R) R) : HSs c ns τ D (st :: sts) N R := fun hb W ow s Q E S KN KR =>
  wpAny_execs_cons (H hb W ow s _ E S (fun τ' D' ow' h' tk p S' => p hb W ow' _ Q E S' (fun τ'' D'' ow'' h'' tk'' p' S'' => KN τ'' D'' ow'' h'' tk'' p' S'') fun t D'' v h'' tk'' p' k dr r => KR t D'' v h'' tk'' p' k dr r)
    fun t D' v h' tk p k dr r => KR t D' v h' tk p k dr r)
theorem hss_one (H : HS c ns τ D st N R) : HSs c ns τ D [st] N R := hss_cons (H.mono (fun _ _ h => hss_nil h) fun _ _ h => h)

theorem hs_ret {pos : Pos} (hf : Full τ σ) (H : HE c ns σ D e R) : HS c ns τ D (.Return (some e) pos) N R := fun hb W ow s Q E S KN KR =>
  wpAny_Return_some (H s _ E (S.full hf) fun t D' v h' tk p S' k r => KR t D' v h' tk p (S.next k fun a q => (S'.dr a q).1).kp (fun a q => (S'.dr a q).1) r)

theorem hs_if {t : Expr} {b o : List Stmt} {pos : Pos} (hf : Full τ σ) (H : HT c ns σ D t fun q D' => if q then HSs c ns τ D' b N R else HSs c ns τ D' o N R) : HS c ns τ D (.If t b o pos) N R := fun hb W ow s Q E S KN KR => by
  refine wpAny_If (H s _ E (S.full hf) fun q D' h' tk p S' k => ?_)
  have S'' := S.next k fun a q => (S'.dr a q).1
  cases q with
  | true => exact p hb W ow _ Q E S'' (fun τ'' D'' ow'' h'' tk'' p' S'' => KN τ'' D'' ow'' h'' tk'' p' S'') fun t D'' v h'' tk'' p' k dr r => KR t D'' v h'' tk'' p' k dr r
  | false => exact p hb W ow _ Q E S'' (fun τ'' D'' ow'' h'' tk'' p' S'' => KN τ'' D'' ow'' h'' tk'' p' S'') fun t D'' v h'' tk'' p' k dr r => KR t D'' v h'' tk'' p' k dr r

theorem hs_assign {x : Str} {px pos : Pos} (H : HA c ns τ D e fun t D' => AsP ns τ x N (.val t) D')
    (hs : ∀ env, swapsWith e (some (.Name x px)) pos.line env = pure false := by intro _; rfl) : HS c ns τ D (.Assign [.Name x px] e pos) N R := fun hb W ow s Q E S KN KR =>
  wpAny_Assign_Name (H hb W ow s _ E S fun t D' v h' tk p S' k r => by
    obtain ⟨k, τ', sa, hk, p⟩ := p
    exact sst_store (s := { s with heap := h', toks := tk }) sa hk S' r fun h'' tk'' S'' _ => KN τ' D' ow h'' tk'' p S'') (hs _)
theorem hs_assign_own {x : Str} {px pos : Pos} (H : HO c ns τ D x e fun l D' => AsP ns τ x N (.own l) D')
    (hs : ∀ env, swapsWith e (some (.Name x px)) pos.line env = pure false := by intro _; rfl) : HS c ns τ D (.Assign [.Name x px] e pos) N R := fun hb W ow s Q E S KN KR =>
  wpAny_Assign_Name (H hb W ow s _ E S fun l D' a vs h' tk p S' k pl r => by
    obtain ⟨k, τ', sa, hk, p⟩ := p
    exact sst_own (s := { s with heap := h', toks := tk }) sa hk S' List.mem_cons_self pl r fun h'' tk'' S'' _ => KN τ' D' _ h'' tk'' p S'') (hs _)
theorem hs_freeze {x : Str} {k : NameKind} {l : List PV} {τ' : STs} {m : Sem Flow} (at' : AtS ns τ x k (.own l)) (sa : SetS ns τ x k (.val (.list l)) τ') (H : HX c ns τ' D m N R) : HX c ns τ D m N R := fun hb W ow s Q E S KN KR => by
  obtain ⟨ow', S'⟩ := S.freeze at' sa
  exact H hb W ow' s Q E S' KN KR

theorem hs_expr {pos : Pos} {P : PV → Int × Int → Prop} (H : HA c ns τ D e fun t D' => N τ D') (hs : ∀ env, swapsWith e none pos.line env = pure false := by intro _; rfl) : HS c ns τ D (.Expr e pos) N R := fun hb W ow s Q E S KN KR =>
  wpAny_Expr_any (H hb W ow s _ E S fun t D' v h' tk p S' k r => KN τ D' ow h' tk p S') (by show interactive c.env = false; unfold interactive; rw [show c.env.scope.kind = _ from S.base.ok.kind]; rfl) (hs _)

theorem hs_sub {x : Str} {px pos : Pos} {k : NameKind} {a : Int} (at' : AtS ns τ x k (.val (.int a))) (hf : Full τ σ) (H : HE c ns σ D e (SubP ns τ x k a N))
    (hd : (x == ("__classdict__" : Str)) = false := by decide) : HS c ns τ D (.AugAssign (.Name x px) .Sub e pos) N R := fun hb W ow s Q E S KN KR => by
  obtain ⟨v, rd, rp⟩ := S.base.vars x k _ at'.base
  obtain ⟨t, rfl⟩ := rp
  have kd := S.base.ok.kinds x k at'.mem
  refine wpAny_AugAssign_Name ?_
  have fin : wpAny (model c.prog c.w) c.A (eval e c.env) (fun v s₂ => wpAny (model c.prog c.w) c.A (inplaceOp .Sub (.int a t) v)
      (fun r s₃ => wpAny (model c.prog c.w) c.A (storeName c.env x r) (fun _ => Q .next) E s₃) E s₂) E s := by
    refine H s _ E (S.full hf) fun t' D' v h' tk p S' k' r => ?_
    obtain ⟨b, rfl, τ', sa, hk, p⟩ := p
    obtain ⟨u, rfl⟩ := r
    have S₂ := S.next k' fun a q => (S'.dr a q).1
    have fin : wpAny (model c.prog c.w) c.A (storeName c.env x (.int (a - b) tk)) (fun _ => Q .next) E { s with heap := h', toks := tk + 1 } :=
      sst_store (s := { s with heap := h', toks := tk + 1 }) sa hk S₂ rep_int fun h'' tk'' S'' _ => KN τ' D' ow h'' tk'' p S''
    with_reducible exact PyProof.Rows.isub_int fin
  cases k with
  | «local» => obtain ⟨m, hn, hv⟩ := rd; exact wpAny_loadName_local S.base.ok.kind kd hn hv fin
  | cell => obtain ⟨cc, hn, hv⟩ := rd; exact wpAny_loadName_cell S.base.ok.kind kd hn hv fin
  | free => obtain ⟨cc, hn, hv⟩ := rd; exact wpAny_loadName_free S.base.ok.kind kd hn hv fin hd
  | _ => exact rd.elim

theorem hs_while {t : Expr} {b : List Stmt} {pos : Pos} (I : Nat → STs → Int × Int → Prop) (n : Nat) (h : I n τ D)
    (turn : ∀ n τ D, I n τ D → ∃ σ, Full τ σ ∧ HT c ns σ D t fun q D' => if q then HSs c ns τ D' b (LtI I n) R else N τ D') : HS c ns τ D (.While t b [] pos) N R := fun hb W ow s Q E S KN KR => by
  refine wpAny_While ?_
  refine codeAny_whileLoop (fun n s₂ => ∃ τ' D' ow' h' tk, s₂ = { s with heap := h', toks := tk } ∧ I n τ' D' ∧ SSt c hb W ow' ns τ' D' h') ?_ n ⟨τ, D, ow, s.heap, s.toks, rfl, h, S⟩
  rintro n s₂ ⟨τ', D', ow', h', tk, rfl, hI, S'⟩
  obtain ⟨σ', hf, H⟩ := turn n τ' D' hI
  refine H _ _ _ (S'.full hf) fun q D'' h'' tk'' p S'' k => ?_
  have S₃ := S'.next k fun a q => (S''.dr a q).1
  cases q with
  | false =>
    exact wpAny_execs_nil (KN τ' D'' ow' h'' tk'' p S₃)
  | true =>
    refine p hb W ow' _ _ _ S₃ (fun τ₃ D₃ ow₃ h₃ tk₃ p' S₄ => ?_) fun t D'' v h'' tk'' p' k dr r => KR t D'' v h'' tk'' p' k dr r
    obtain ⟨m, hm, hI'⟩ := p'
    exact ⟨m, hm, τ₃, D₃, ow₃, h₃, tk₃, rfl, hI', S₄⟩
end
end Mine
namespace Mine

section
variable {c : Cx} {hb : Heap} {W : Addr → Prop} {ow : List (Str × Addr)} {ns : Names} {τ τ' τ'' : STs} {D D' : Int × Int} {h h' : Heap} {own : List Addr} {e : Expr} {N : SN} {R : SR} {σ : Vals}

/-- with a walker beside it -/
theorem SSt.grow (S : SSt c hb W ow ns τ D h) (k : Kp c.d h h') (dr : ∀ a, c.d = some a → DrawsAt c.prog c.w h' a D') (ho : ∀ b ∈ own, h.get? b = none ∧ ∃ o, h'.get? b = some o) : SSt (c.plus own) hb W ow ns τ D' h' := by
  have S' := S.next k dr
  have up : ∀ {t : PV} {v : Value}, Rep (c.plus (ow.map (·.2))).X h t v → Rep ((c.plus own).plus (ow.map (·.2))).X h' t v := fun {t v} r => Rep.keep (fun b o hx e => ⟨fun q => by
    rcases q with q | q
    · rcases q with q | q
      · exact hx (.inl q)
      · exact noS ((ho b q).1) e
    · exact hx (.inr q), k b o (fun q => hx (.inl (S.dX b q).1)) e⟩) t v r
  have ups : ∀ {t : List PV} {v : List Value}, Reps (c.plus (ow.map (·.2))).X h t v → Reps ((c.plus own).plus (ow.map (·.2))).X h' t v := fun {t v} r => Reps.keep (fun b o hx e => ⟨fun q => by
    rcases q with q | q
    · rcases q with q | q
      · exact hx (.inl q)
      · exact noS ((ho b q).1) e
    · exact hx (.inr q), k b o (fun q => hx (.inl (S.dX b q).1)) e⟩) t v r
  exact
  { base := { base := S'.base.base
              vars := fun y kd t at' => by
                obtain ⟨v, r, rp⟩ := S.base.vars y kd t at'
                exact ⟨v, fo_reads r fun b o fo e => k b o (S.cx.dne b fo) e, up rp⟩
              dr := fun b q => ⟨dr b q, .inl (.inl (S.dX b q).1), (S.base.dr b q).2.2⟩
              cx := ⟨fun b q => .inl (.inl (S.cx.inX b q)), S.cx.apart, S.cx.ne, S.cx.new, S.cx.dne⟩
              live := fun b hb => by
                rcases hb with q | q
                · rcases q with q | q
                  · exact S'.base.live b (.inl q)
                  · exact (ho b q).2
                · exact S'.base.live b (.inr q)
              ok := S.base.ok
              gl := S.base.gl
              room := S.base.room }
    own := fun y kd l at' => by
      obtain ⟨ad, vs, hm, r, pl, rr⟩ := S.own y kd l at'
      exact ⟨ad, vs, hm, fo_reads r fun b o fo e => k b o (S.cx.dne b fo) e, pl.at fun o e => k _ o (S.fresh _ hm).2.2.2 e, ups rr⟩
    apart := S.apart
    fresh := fun p hp => ⟨(S.fresh p hp).1, fun q => q.elim (S.fresh p hp).2.1 fun q => (by
      obtain ⟨o, e⟩ := S.base.live p.2 (.inr (SSt.inY hp)); exact noS ((ho _ q).1) e), (S.fresh p hp).2.2⟩
    fr := ⟨S'.fr.nd, S'.fr.has, S'.fr.cell⟩
    kp := S'.kp
    cx := ⟨fun b q => .inl (S.cx.inX b q), S.cx.apart, S.cx.ne, S.cx.new, S.cx.dne⟩
    dX := fun a q => ⟨.inl (S.dX a q).1, (S.dX a q).2⟩
    fo := S.fo
    lv := S'.lv }

structure OwnOk (c : Cx) (hb : Heap) (own : List Addr) : Prop where
  ok : ∀ b ∈ own, ¬ c.X b ∧ c.g₀.get? b = none ∧ hb.get? b = none

theorem SSt.ownOk (S : SSt c hb W ow ns τ D h) (ho : ∀ b ∈ own, h.get? b = none) : OwnOk c hb own := ⟨fun b hb' => by
  refine ⟨fun q => ?_, ?_, ?_⟩
  · obtain ⟨o, e⟩ := S.base.live b (.inl q); exact noS (ho b hb') e
  · cases e : c.g₀.get? b with
    | none => rfl
    | some o => exact noS (ho b hb') (S.base.base b o e)
  · cases e : hb.get? b with
    | none => rfl
    | some o => obtain ⟨o', e'⟩ := S.lv b ⟨o, e⟩; rw [ho b hb'] at e'; cases e'⟩

/-- the walker steps -/
theorem SSt.walk (S : SSt (c.plus own) hb W ow ns τ D h) (O : OwnOk c hb own) (cx : CxOk c) (dX : ∀ a, c.d = some a → c.X a) (k : ∀ b o, b ∉ own → h.get? b = some o → h'.get? b = some o) (al : ∀ b ∈ own, ∃ o, h'.get? b = some o) : SSt (c.plus own) hb W ow ns τ D h' := by
  have foN : ∀ b, Fo c.env b → b ∉ own := fun b fo q => (O.ok b q).1 (cx.inX b fo)
  have dN : ∀ b, c.d = some b → b ∉ own := fun b q q' => (O.ok b q').1 (dX b q)
  have lv : ∀ b, (∃ o, h.get? b = some o) → ∃ o, h'.get? b = some o := fun b ⟨o, e⟩ => by
    by_cases q : b ∈ own
    · exact al b q
    · exact ⟨o, k b o q e⟩
  have ups : ∀ {t : List PV} {v : List Value}, Reps ((c.plus own).plus (ow.map (·.2))).X h t v → Reps ((c.plus own).plus (ow.map (·.2))).X h' t v := fun {t v} r => Reps.keep (fun b o hx e => ⟨hx, k b o (fun q => hx (.inl (.inr q))) e⟩) t v r
  refine { base := { base := fun b o e => k b o (fun q => noS ((O.ok b q).2.1) e) (S.base.base b o e), vars := fun y kd t at' => ?_, dr := fun b q => ⟨(S.base.dr b q).1.keep fun o e => k b o (dN b q) e, (S.base.dr b q).2⟩, cx := S.base.cx, live := fun b hb => lv b (S.base.live b hb), ok := S.base.ok, gl := S.base.gl, room := S.base.room }, own := fun y kd l at' => ?_, apart := S.apart, fresh := S.fresh, fr := S.fr.keep fun b o fo e => k b o (foN b fo) e, kp := fun b o hw e => k b o (fun q => noS ((O.ok b q).2.2) e) (S.kp b o hw e), cx := S.cx, dX := S.dX, fo := S.fo, lv := fun b hb' => lv b (S.lv b hb') }
  · obtain ⟨v, r, rp⟩ := S.base.vars y kd t at'
    exact ⟨v, fo_reads r fun b o fo e => k b o (foN b fo) e, Rep.keep (fun b o hx e => ⟨hx, k b o (fun q => hx (.inl (.inr q))) e⟩) t v rp⟩
  · obtain ⟨ad, vs, hm, r, pl, rr⟩ := S.own y kd l at'
    exact ⟨ad, vs, hm, fo_reads r fun b o fo e => k b o (foN b fo) e, pl.at fun o e => k _ o (fun q => (S.fresh _ hm).2.1 (.inr q)) e, ups rr⟩

/-- the walker goes -/
theorem SSt.leave (S : SSt (c.plus own) hb W ow ns τ D h) (O : OwnOk c hb own) (cx : CxOk c) (dX : ∀ a, c.d = some a → c.X a) (k : ∀ b o, b ∉ own → h.get? b = some o → h'.get? b = some o) : SSt c hb W ow ns τ D h' := by
  have foN : ∀ b, Fo c.env b → b ∉ own := fun b fo q => (O.ok b q).1 (cx.inX b fo)
  have dN : ∀ b, c.d = some b → b ∉ own := fun b q q' => (O.ok b q').1 (dX b q)
  have up : ∀ {t : PV} {v : Value}, Rep ((c.plus own).plus (ow.map (·.2))).X h t v → Rep (c.plus (ow.map (·.2))).X h' t v := fun {t v} r => Rep.keep (fun b o hx e => ⟨fun q => hx (q.elim (fun q => .inl (.inl q)) .inr), k b o (fun q => hx (.inl (.inr q))) e⟩) t v r
  have ups : ∀ {t : List PV} {v : List Value}, Reps ((c.plus own).plus (ow.map (·.2))).X h t v → Reps (c.plus (ow.map (·.2))).X h' t v := fun {t v} r => Reps.keep (fun b o hx e => ⟨fun q => hx (q.elim (fun q => .inl (.inl q)) .inr), k b o (fun q => hx (.inl (.inr q))) e⟩) t v r
  have yN : ∀ b ∈ ow.map (·.2), b ∉ own := fun b hb q => by
    obtain ⟨p, hp, rfl⟩ := List.mem_map.mp hb
    exact (S.fresh p hp).2.1 (.inr q)
  refine { base := { base := fun b o e => k b o (fun q => noS ((O.ok b q).2.1) e) (S.base.base b o e), vars := fun y kd t at' => ?_, dr := fun b q => ⟨(S.base.dr b q).1.keep fun o e => k b o (dN b q) e, .inl (dX b q), (S.base.dr b q).2.2⟩, cx := ⟨fun b q => .inl (cx.inX b q), cx.apart, cx.ne, cx.new, cx.dne⟩, live := fun b hb => ?_, ok := S.base.ok, gl := S.base.gl, room := S.base.room }, own := fun y kd l at' => ?_, apart := S.apart, fresh := fun p hp => ⟨(S.fresh p hp).1, fun q => (S.fresh p hp).2.1 (.inl q), (S.fresh p hp).2.2⟩, fr := ⟨S.fr.nd, ?_, ?_⟩, kp := fun b o hw e => k b o (fun q => noS ((O.ok b q).2.2) e) (S.kp b o hw e), cx := cx, dX := fun a q => ⟨dX a q, (S.dX a q).2⟩, fo := S.fo, lv := fun b hb' => ?_ }
  · obtain ⟨v, r, rp⟩ := S.base.vars y kd t at'
    exact ⟨v, fo_reads r fun b o fo e => k b o (foN b fo) e, up rp⟩
  · rcases hb with q | q
    · obtain ⟨o, e⟩ := S.base.live b (.inl (.inl q)); exact ⟨o, k b o (fun z => (O.ok b z).1 q) e⟩
    · obtain ⟨o, e⟩ := S.base.live b (.inr q); exact ⟨o, k b o (yN b q) e⟩
  · obtain ⟨ad, vs, hm, r, pl, rr⟩ := S.own y kd l at'
    exact ⟨ad, vs, hm, fo_reads r fun b o fo e => k b o (foN b fo) e, pl.at fun o e => k _ o (fun q => (S.fresh _ hm).2.1 (.inr q)) e, ups rr⟩
  · obtain ⟨m, e⟩ := S.fr.has; exact ⟨m, Heap.Ns.one e fun o e => k _ o (foN _ (.inl rfl)) e⟩
  · intro x hx
    obtain ⟨b, v, e, o, ho, hd⟩ := S.fr.cell x hx
    exact ⟨b, v, e, o, k b o (foN b (.inr ⟨_, mem_of_lookup e⟩)) ho, hd⟩
  · obtain ⟨o, e⟩ := hb'
    obtain ⟨o', e'⟩ := S.lv b ⟨o, e⟩
    exact ⟨o', k b o' (fun q => noS ((O.ok b q).2.2) e) e'⟩

/-- what a loop's target takes -/
inductive TgtS (ns : Names) : STs → Expr → PV → STs → Prop
  | name {τ τ' : STs} {x : Str} {p : Pos} {t : PV} {k : NameKind} (sa : SetS ns τ x k (.val t) τ') (hk : LC k) : TgtS ns τ (.Name x p) t τ'
  | two {τ τ' τ'' : STs} {x y : Str} {p q tp : Pos} {n : Nat} {t u : PV} {k k' : NameKind} (sa : SetS ns τ x k (.val t) τ') (hk : LC k) (sb : SetS ns τ' y k' (.val u) τ'') (hk' : LC k') :
      TgtS ns τ (.Tuple [.Name x p, .Name y q] n tp) (.tup [t, u]) τ''

theorem SSt.ext (S : SSt c hb W ow ns τ D h) (k : ∀ b o, h.get? b = some o → h'.get? b = some o) : SSt c hb W ow ns τ D h' := S.next (Kp.all k) fun a q => (S.base.dr a q).1.keep fun o e => k a o e

theorem sst_target {tgt : Expr} {t : PV} {v : Value} (st : TgtS ns τ tgt t τ') {s : Shared} {Q : Unit → Shared → Prop} {E : Value → Shared → Prop} (S : SSt c hb W ow ns τ D s.heap) (r : Rep (c.plus (yof ow)).X s.heap t v)
    (K : ∀ h' tk, SSt c hb W ow ns τ' D h' → (∀ b o, ¬ Fo c.env b → s.heap.get? b = some o → h'.get? b = some o) → Q () { s with heap := h', toks := tk }) :
    wpAny (model c.prog c.w) c.A (assign tgt c.env v) Q E s := by
  cases st with
  | name sa hk => exact wpAny_assign_Name (sst_store sa hk S r K)
  | two sa hk sb hk' =>
    obtain ⟨a, vs, rfl, hx, ht, rr⟩ := r
    obtain ⟨v₁, r', rfl, h1, v₂, r'', rfl, h2, rfl⟩ := rr
    refine wpAny_assign_Tuple S.base.room.1 ht rfl rfl fun h₁ he => ?_
    have kp₁ : ∀ b o, s.heap.get? b = some o → h₁.get? b = some o := fun b o e => he b o (Nat.ne_of_lt (Heap.lt_size e)) e
    have S₁ := S.ext kp₁
    have up : ∀ {t : PV} {v : Value}, Rep (c.plus (yof ow)).X s.heap t v → Rep (c.plus (yof ow)).X h₁ t v := fun {t v} r => Rep.keep (fun b o hx e => ⟨hx, kp₁ b o e⟩) t v r
    show wpAny _ _ (do holding [v₂] (assign (.Name _ _) c.env v₁); do holding [] (assign (.Name _ _) c.env v₂); pure ()) _ _ _
    refine wpAny_bind (wpAny_holding (wpAny_assign_Name (sst_store (s := { s with heap := h₁ }) sa hk S₁ (up h1) fun h₂ tk₂ S₂ k₂ => ?_)))
    have r₂ : Rep (c.plus (yof ow)).X h₂ _ v₂ := Rep.keep (fun b o hx e => ⟨hx, k₂ b o (fun fo => hx (.inl (S.cx.inX b fo))) e⟩) _ v₂ (up h2)
    refine wpAny_bind (wpAny_holding (wpAny_assign_Name (sst_store (s := { s with heap := h₂, toks := tk₂ }) sb hk' S₂ r₂ fun h₃ tk₃ S₃ k₃ => ?_)))
    exact wpAny_pure (K h₃ tk₃ S₃ fun b o nf e => k₃ b o nf (k₂ b o nf (kp₁ b o e)))

/-- what a loop goes over -/
noncomputable def HIS (c : Cx) (ns : Names) (τ : STs) (D : Int × Int) (e tgt : Expr) (P : List PV → Int × Int → Prop) : Prop :=
  ∀ (hb : Heap) (W : Addr → Prop) (ow : List (Str × Addr)) (s : Shared) (Q : Value → Shared → Prop) (E : Value → Shared → Prop), SSt c hb W ow ns τ D s.heap →
    (∀ items D' I own St Mid h' tk, P items D' → SSt (c.plus own) hb W ow ns τ D' h' → Itr c.prog c.w c.A (c.plus (yof ow)).X h' tgt I items own St Mid → St 0 h' → (∀ b ∈ own, s.heap.get? b = none) → (∀ b o, ¬ W b → hb.get? b = some o → h'.get? b = some o) →
      Q (.ref I) { s with heap := h', toks := tk }) →
    wpAny (model c.prog c.w) c.A (eval e c.env) (fun x s₁ => wpAny (model c.prog c.w) c.A (pyIter x) Q E s₁) E s

theorem his_base {tgt : Expr} {P : List PV → Int × Int → Prop} (hf : Base τ σ) (H : ∀ X, HI (c.inX X) ns σ D e tgt P) : HIS c ns τ D e tgt P := fun hb W ow s Q E S K => by
  refine H (c.plus (yof ow)).X s Q E (S.base.sub fun x k t a => hf.sub a) fun items D' I own St Mid h' tk p S' k IT st0 ho => ?_
  have S₂ : SSt (c.plus own) hb W ow ns τ D' h' := S.grow k (fun a q => (S'.dr a q).1) fun b hb => ⟨ho b hb, S'.live b (.inr hb)⟩
  exact K items D' I own St Mid h' tk p S₂ IT st0 ho S₂.kp

inductive TurnP (c : Cx) (ns : Names) (tgt : Expr) (b : List Stmt) (R : SR) (t : PV) (N : SN) (τ : STs) (D : Int × Int) : Prop
  | mk (τ' : STs) (st : TgtS ns τ tgt t τ') (h : ∀ X, HSs (c.inX X) ns τ' D b N R) : TurnP c ns tgt b R t N τ D
inductive ForP (c : Cx) (ns : Names) (τ : STs) (tgt : Expr) (b : List Stmt) (N : SN) (R : SR) (items : List PV) (D₁ : Int × Int) : Prop
  | mk (I : Nat → STs → Int × Int → Prop) (i0 : I 0 τ D₁) (turn : ∀ i t τ D, items[i]? = some t → I i τ D → TurnP c ns tgt b R t (I (i + 1)) τ D) (fin : ∀ τ D, I items.length τ D → N τ D) : ForP c ns τ tgt b N R items D₁
/-- a loop -/
theorem hs_for {it tgt : Expr} {b : List Stmt} {pos : Pos} {D : Int × Int}
    (H : HIS c ns τ D it tgt (ForP c ns τ tgt b N R))
    (hs : ∀ env x, foldedSetIterable it env x = pure x := by intro _ _; rfl) : HS c ns τ D (.For tgt it b [] pos) N R := fun hb W ow s Q E S KN KR => by
  refine wpAny_For ?_ (hs _)
  refine H hb W ow s _ E S fun items D₁ I own St Mid hc tk₁ p Sc IT st0 ho _ => ?_
  obtain ⟨Inv, i0, turn, fin⟩ := p
  have O : OwnOk c hb own := S.ownOk ho
  have dX : ∀ a, c.d = some a → c.X a := fun a q => (S.dX a q).1
  refine codeAny_forLoop_any (fun n s₂ => ∃ i τ' D' ow' h' tk, n = items.length - i ∧ i ≤ items.length ∧ s₂ = { s with heap := h', toks := tk } ∧ Inv i τ' D' ∧ SSt (c.plus own) hb W ow' ns τ' D' h' ∧ St i h' ∧
    (∀ p ∈ ow', p.2 ∈ yof ow ∨ hc.get? p.2 = none) ∧ (∀ b, (∃ o, hc.get? b = some o) → ∃ o, h'.get? b = some o)) ?_ items.length
    ⟨0, τ, D₁, ow, hc, _, rfl, Nat.zero_le _, rfl, i0, Sc, st0, fun p hp => .inl (SSt.inY hp), fun b q => q⟩
  rintro n s₂ ⟨i, τ', D', ow', h, tk, rfl, hi, rfl, hI, S₁, st, hy, al⟩
  have X0 : ∀ b, (c.plus (yof ow)).X b → ∃ o, hc.get? b = some o := fun b q => q.elim (fun q => Sc.base.live b (.inl (.inl q))) fun q => Sc.base.live b (.inr q)
  by_cases hlt : i < items.length
  · refine IT.item i items[i] { s with heap := h, toks := tk } _ _ (by simp [hlt]) st (fun b q => al b (X0 b q)) fun v h₂ tk₂ rv mid k₂ => ?_
    show wpAny _ _ (letOwnedTupleGo tgt (.ref I) v) _ _ _
    refine IT.go i v _ _ _ mid fun h₃ st₃ k₃ => ?_
    have k23 : ∀ b o, b ∉ own → h.get? b = some o → h₃.get? b = some o := fun b o hb e => k₃ b o hb (k₂ b o hb e)
    have S₃ := S₁.walk O S.cx dX k23 (IT.keepO _ _ st₃)
    have rv₃ : Rep ((c.plus own).plus (yof ow')).X h₃ items[i] v := Rep.keep (fun b o hx e => by
      refine ⟨fun q => ?_, k₃ b o (fun q => hx (.inr (.inl q))) e⟩
      rcases q with (q | q) | q
      · exact hx (.inl (.inl q))
      · exact hx (.inr (.inl q))
      · obtain ⟨p, hp, rfl⟩ := List.mem_map.mp q
        rcases hy p hp with q' | q'
        · exact hx (.inl (.inr q'))
        · exact hx (.inr (.inr ⟨q', S₁.base.live _ (.inr q)⟩))) _ _ rv
    obtain ⟨τ₂, ht, hbody⟩ := turn i items[i] τ' D' (by simp [hlt]) hI
    refine sst_target (c := c.plus own) ht (s := { s with heap := h₃, toks := tk₂ }) S₃ rv₃ fun h₄ tk₄ S₄ k₄ => ?_
    have st₄ : St (i + 1) h₄ := IT.frame _ _ _ st₃ fun b o hx _ e => k₄ b o (fun fo => hx (.inl (S.cx.inX b fo))) e
    have al₃ : ∀ b, (∃ o, hc.get? b = some o) → ∃ o, h₃.get? b = some o := fun b q => by
      by_cases hb' : b ∈ own
      · exact IT.keepO _ _ st₃ b hb'
      · obtain ⟨o, e⟩ := al b q; exact ⟨o, k23 b o hb' e⟩
    have al₄ : ∀ b, (∃ o, hc.get? b = some o) → ∃ o, h₄.get? b = some o := fun b q => by
      by_cases fo : Fo c.env b
      · exact S₄.base.live b (.inl (.inl (S.cx.inX b fo)))
      · obtain ⟨o, e⟩ := al₃ b q; exact ⟨o, k₄ b o fo e⟩
    -- the turn's own view
    have hW : ∀ b, (Fo c.env b ∨ c.d = some b ∨ b ∈ yof ow ∨ hc.get? b = none) → W b ∨ hb.get? b = none := fun b q => by
      rcases q with q | q | q | q
      · exact S.fo b q
      · exact .inl (S.dX b q).2
      · obtain ⟨p, hp, rfl⟩ := List.mem_map.mp q; exact (S.fresh p hp).1
      · by_cases w : W b
        · exact .inl w
        · cases e : hb.get? b with
          | none => exact .inr rfl
          | some o => exact noS (q) (Sc.kp b o w e)
    have S₄' : SSt (c.plus own) h₄ (fun b => Fo c.env b ∨ c.d = some b ∨ b ∈ yof ow ∨ hc.get? b = none) ow' ns τ₂ D' h₄ :=
      { base := S₄.base, own := S₄.own, apart := S₄.apart, fresh := fun p hp => ⟨.inl ((hy p hp).elim (fun q => .inr (.inr (.inl q))) fun q => .inr (.inr (.inr q))), (S₄.fresh p hp).2⟩, fr := S₄.fr, kp := fun _ _ _ e => e, cx := S₄.cx, dX := fun a q => ⟨(S₄.dX a q).1, .inr (.inl q)⟩, fo := fun b q => .inl (.inl q), lv := fun _ q => q }
    have back : ∀ {h₅ : Heap}, (∀ b o, ¬ (Fo c.env b ∨ c.d = some b ∨ b ∈ yof ow ∨ hc.get? b = none) → h₄.get? b = some o → h₅.get? b = some o) → ∀ b o, ¬ W b → hb.get? b = some o → h₅.get? b = some o := fun {h₅} kk b o hw e =>
      kk b o (fun q => (hW b q).elim hw fun q => noS (q) e) (S₄.kp b o hw e)
    refine hbody (c.plus own).X h₄ _ ow' { s with heap := h₄, toks := tk₄ } _ _ S₄' (fun τ₅ D₅ ow₅ h₅ tk₅ hp S₅ => ?_) fun t D₅ v h₅ tk₅ hp kk dr r => ?_
    · have fr5 : ∀ p ∈ ow₅, p.2 ∈ yof ow ∨ hc.get? p.2 = none := fun p hp => by
        rcases (S₅.fresh p hp).1 with (q | q | q | q) | q
        · exact absurd (S₅.cx.inX _ q) (S₅.fresh p hp).2.1
        · exact absurd q (S₅.fresh p hp).2.2.2
        · exact .inl q
        · exact .inr q
        · cases e : hc.get? p.2 with
          | none => exact .inr rfl
          | some o => obtain ⟨o', e'⟩ := al₄ p.2 ⟨o, e⟩; rw [q] at e'; cases e'
      exact ⟨items.length - (i + 1), by (exact zq56 hlt), i + 1, τ₅, D₅, ow₅, h₅, tk₅, rfl, hlt, rfl, hp,
        { base := S₅.base, own := S₅.own, apart := S₅.apart, fresh := fun p hp => ⟨hW _ ((fr5 p hp).elim (fun q => .inr (.inr (.inl q))) fun q => .inr (.inr (.inr q))), (S₅.fresh p hp).2⟩, fr := S₅.fr, kp := back S₅.kp, cx := S₅.cx, dX := fun a q => ⟨(S₅.dX a q).1, (S.dX a q).2⟩, fo := S.fo, lv := fun b q => S₅.lv b (S₄.lv b q) },
        IT.frame _ _ _ st₄ fun b o hx he e => S₅.kp b o (fun q => by
          rcases q with q | q | q | q
          · exact hx (.inl (S.cx.inX b q))
          · exact hx (.inl (dX b q))
          · exact hx (.inr q)
          · obtain ⟨o', e'⟩ := he; rw [q] at e'; cases e') e, fr5, fun b q => S₅.lv b (al₄ b q)⟩
    · exact KR t D₅ v h₅ tk₅ hp (back kk) dr (Rep.keep (fun b o hx e => ⟨fun q => hx (.inl q), e⟩) _ _ r)
  · have hie : i = items.length := by (exact zq129 hi hlt)
    subst hie
    refine IT.done { s with heap := h, toks := tk } _ _ st fun h₂ tk₂ k₂ => ?_
    exact wpAny_execs_nil (KN τ' D' ow' h₂ tk₂ (fin τ' D' hI) (S₁.leave O S.cx dX k₂))

/-- a walk over a range that is read off what the frame holds -/
theorem his_range1 {P : List PV → Int × Int → Prop} {x : Str} {px p pos : Pos} (hF : Full τ σ) (H : HE c ns σ D e (Range1P P))
    (hf : (("range" : Str), NameKind.globalImplicit) ∈ ns) (hm : c.mg "range" = none) (hp : Plain [e]) : HIS c ns τ D (.Call (.Name "range" p) [e] [] pos) (.Name x px) P := by
  intro hb W ow s Q E S K
  refine go_callB hf hm bb_range nn_range (by decide) (.inr ⟨_, rfl⟩) hp (S.full hF) ?_
  rw [hp.1]
  refine spliced_cons (H s _ E (S.full hF) fun t D₁ v h₁ tk₁ p S₁ k₁ r₁ => spliced_nil ?_)
  obtain ⟨n, rfl, hlo, hhi, p⟩ := p
  obtain ⟨t, rfl⟩ := r₁
  refine call_range_1 (wpAny_pyIter_range (IsRange.new ..) (small_one (by decide) (by decide) (by omega) (by omega)) ?_)
  have hsz : Builtin.Range.rangeSize 0 n 1 = (n.toNat : Int) := by rw [rangeSize_one]; split <;> (first | exact zq64 hlo hhi (by assumption) | exact zq65 hlo hhi (by assumption) | omega)
  have S₂ := (S₁.push { cls := .type "range", data := .fields #[.int 0 tk₁, .int n t, .int 1 (tk₁ + 1)] })
  have kk : ∀ b o, h₁.get? b = some o → ((h₁.push { cls := .type "range", data := .fields #[.int 0 tk₁, .int n t, .int 1 (tk₁ + 1)] }).push { cls := .type "range_iterator", data := .fields #[.int 0 (tk₁ + 1 + 1), .int (Builtin.Range.rangeSize 0 n 1) 0, .int 1 (tk₁ + 1 + 1)] }).get? b = some o := fun b o e => Heap.get?_push_of_some _ (Heap.get?_push_of_some _ e)
  have k₂ : Kp c.d s.heap _ := k₁.trans (Kp.all fun b o e => Heap.get?_push_of_some { cls := .type "range", data := .fields #[.int 0 tk₁, .int n t, .int 1 (tk₁ + 1)] } e)
  have fr := S₂.freshSize k₂
  have SS := S.next k₁ fun a q => (S₁.dr a q).1
  refine K (il (upto 0 n)) D₁ _ [(h₁.push { cls := .type "range", data := .fields #[.int 0 tk₁, .int n t, .int 1 (tk₁ + 1)] }).objs.size] _ _ _ _ p
    (S.grow (k₂.trans (Kp.all fun b o e => Heap.get?_push_of_some _ e)) (fun a q => (S₂.dr a q).1.keep fun o e => Heap.get?_push_of_some _ e) fun b hb => by rw [List.mem_singleton.mp hb]; exact ⟨fr, _, Heap.get?_push_size _ rfl⟩)
    (itr_range S.base.room.1 (fun q => by
      obtain ⟨o, e⟩ := S.base.live _ q
      exact noS (fr) e) ⟨_, Heap.get?_push_size _ rfl⟩) ⟨?_, trivial⟩ (fun b hb => by rw [List.mem_singleton.mp hb]; exact fr)
    fun b o hw e => Heap.get?_push_of_some _ (Heap.get?_push_of_some _ (SS.kp b o hw e))
  show IsRangeIter _ _ _ _ _
  rw [show (0 : Int) + ((0 : Nat) : Int) * 1 = 0 by simp, show (((n - 0).toNat : Nat) : Int) - ((0 : Nat) : Int) = Builtin.Range.rangeSize 0 n 1 by rw [hsz]; simp]
  exact Heap.get?_push_size _ rfl

theorem his_range2 {P : List PV → Int × Int → Prop} {l r : Expr} {x : Str} {px p pos : Pos} (hF : Full τ σ) (H : HE c ns σ D l fun u D₁ => HE c ns σ D₁ r (Range2P P u))
    (hf : (("range" : Str), NameKind.globalImplicit) ∈ ns) (hm : c.mg "range" = none) (hp : Plain [l, r]) : HIS c ns τ D (.Call (.Name "range" p) [l, r] [] pos) (.Name x px) P := by
  intro hb W ow s Q E S K
  refine go_callB hf hm bb_range nn_range (by decide) (.inr ⟨_, rfl⟩) hp (S.full hF) ?_
  rw [hp.1]
  refine spliced_cons (H s _ E (S.full hF) fun u D₁ v h₁ tk₁ H₂ S₁ k₁ r₁ => ?_)
  rw [hp.2.1]
  refine spliced_cons (H₂ _ _ E S₁ fun u' D₂ v' h₂ tk₂ p S₂ k₂ r₂ => spliced_nil ?_)
  obtain ⟨a, b, rfl, rfl, a1, a2, b1, b2, p⟩ := p
  obtain ⟨t, rfl⟩ := r₁
  obtain ⟨t', rfl⟩ := r₂
  have k₁ := k₁.trans k₂
  refine call_range_2 (wpAny_pyIter_range (IsRange.new ..) (small_one (by omega) (by omega) (by omega) (by omega)) ?_)
  have hsz : Builtin.Range.rangeSize a b 1 = ((b - a).toNat : Int) := by rw [rangeSize_one]; split <;> (first | exact zq68 (by assumption) | exact zq69 (by assumption) | omega)
  have S₃ := (S₂.push { cls := .type "range", data := .fields #[.int a t, .int b t', .int 1 tk₂] })
  have k₂ : Kp c.d s.heap _ := k₁.trans (Kp.all fun b' o e => Heap.get?_push_of_some { cls := .type "range", data := .fields #[.int a t, .int b t', .int 1 tk₂] } e)
  have fr := S₃.freshSize k₂
  have SS := S.next k₁ fun a q => (S₂.dr a q).1
  refine K (il (upto a b)) D₂ _ [(h₂.push { cls := .type "range", data := .fields #[.int a t, .int b t', .int 1 tk₂] }).objs.size] _ _ _ _ p
    (S.grow (k₂.trans (Kp.all fun b o e => Heap.get?_push_of_some _ e)) (fun a q => (S₃.dr a q).1.keep fun o e => Heap.get?_push_of_some _ e) fun b hb => by rw [List.mem_singleton.mp hb]; exact ⟨fr, _, Heap.get?_push_size _ rfl⟩)
    (itr_range S.base.room.1 (fun q => by
      obtain ⟨o, e⟩ := S.base.live _ q
      exact noS (fr) e) ⟨_, Heap.get?_push_size _ rfl⟩) ⟨?_, trivial⟩ (fun b hb => by rw [List.mem_singleton.mp hb]; exact fr)
    fun b o hw e => Heap.get?_push_of_some _ (Heap.get?_push_of_some _ (SS.kp b o hw e))
  show IsRangeIter _ _ _ _ _
  rw [show a + ((0 : Nat) : Int) * 1 = a by simp, show (((b - a).toNat : Nat) : Int) - ((0 : Nat) : Int) = Builtin.Range.rangeSize a b 1 by rw [hsz]; simp]
  exact Heap.get?_push_size _ rfl
end
end Mine
namespace Mine

section
variable {c : Cx} {hb : Heap} {W : Addr → Prop} {ow : List (Str × Addr)} {ns : Names} {τ τ' τ'' : STs} {D D' : Int × Int} {h h' : Heap} {e : Expr} {N : SN} {R : SR} {σ : Vals}

/-- several separate values -/
noncomputable def HAL (c : Cx) (ns : Names) (τ : STs) (D : Int × Int) (es : List Expr) (P : List PV → Int × Int → Prop) : Prop :=
  ∀ (hb : Heap) (W : Addr → Prop) (ow : List (Str × Addr)) (s : Shared) (pos : Pos) (Q : List Value → Shared → Prop) (E : Value → Shared → Prop), SSt c hb W ow ns τ D s.heap →
    (∀ ts D' vs h' tk, P ts D' → SSt c hb W ow ns τ D' h' → Kp c.d s.heap h' → Reps (c.plus (yof ow)).X h' ts vs → Q vs { s with heap := h', toks := tk }) →
    wpAny (model c.prog c.w) c.A (spliced (backTo pos (starEach es c.env))) Q E s
theorem SSt.up (S : SSt c hb W ow ns τ D h) (k : Kp c.d h h') {t : PV} {v : Value} (r : Rep (c.plus (yof ow)).X h t v) : Rep (c.plus (yof ow)).X h' t v := Rep.kp k (fun a q => .inl (S.dX a q).1) t v r
theorem hal_nil {P : List PV → Int × Int → Prop} (p : P [] D) : HAL c ns τ D [] P := fun hb W ow s pos Q E S K => spliced_nil (K [] D [] s.heap s.toks p S Kp.refl Reps.nil)
theorem hal_cons {rest : List Expr} {P : List PV → Int × Int → Prop} (H : HA c ns τ D e fun t D₁ => HAL c ns τ D₁ rest fun ts D₂ => P (t :: ts) D₂)
    (hp : ∀ env, starEach (e :: rest) env = (false, eval e env) :: starEach rest env := by intro _; rfl) : HAL c ns τ D (e :: rest) P := fun hb W ow s pos Q E S K => by
  rw [hp]
  show wpAny _ _ (spliced ((false, eval e c.env) :: backTo pos (starEach rest c.env))) _ _ _
  refine spliced_cons (H hb W ow s _ E S fun t D₁ v h₁ tk₁ H₂ S₁ k₁ r₁ => ?_)
  exact H₂ hb W ow _ pos _ E S₁ fun ts D₂ vs h₂ tk₂ p S₂ k₂ r₂ => K (t :: ts) D₂ (v :: vs) h₂ tk₂ p S₂ (k₁.trans k₂) (Reps.cons (S₁.up k₂ r₁) r₂)
theorem SSt.sizeY (S : SSt c hb W ow ns τ D h) : ¬ (c.plus (yof ow)).X h.objs.size := fun q => by
  obtain ⟨o, e⟩ := S.base.live _ q
  exact noS (Heap.get?_none_of_le (Nat.le_refl _)) e
theorem ha_tuple {es : List Expr} {k : Nat} {pos : Pos} {P : PV → Int × Int → Prop} (H : HAL c ns τ D es fun ts D' => ts.length ≤ sizeLine ∧ P (.tup ts) D') : HA c ns τ D (.Tuple es k pos) P := fun hb W ow s Q E S K =>
  Tuple_ (H hb W ow s pos _ E S fun ts D' vs h' tk p S' k r => wpAny_newObj_type
    (K (.tup ts) D' _ _ tk p.2 (S'.ext fun _ _ e => Heap.get?_push_of_some _ e) (k.trans (Kp.all fun _ _ e => Heap.get?_push_of_some _ e))
      (rep_tup S'.sizeY ⟨_, Heap.get?_push_size _ rfl, rfl, 0, rfl⟩ (Reps.keep (fun b o hx e => ⟨hx, Heap.get?_push_of_some _ e⟩) _ _ r)))
    (by show vs.toArray.size ≤ sizeLine; rw [List.size_toArray, r.len]; exact p.1))

/-- the name of an own list, and an item of it -/
theorem own_name {x : Str} {k : NameKind} {l : List PV} {p : Pos} (at' : AtS ns τ x k (.own l)) {s : Shared} {Q : Value → Shared → Prop} {E : Value → Shared → Prop} (S : SSt c hb W ow ns τ D s.heap)
    (K : ∀ a vs, (x, a) ∈ ow → Reads c.env s.heap x (.ref a) k → s.heap.PlainList a vs.toArray → Reps (c.plus (yof ow)).X s.heap l vs → Q (.ref a) s)
    (hd : (x == ("__debug__" : Str)) = false := by decide) (hc : (x == ("__classdict__" : Str)) = false := by decide) : wpAny (model c.prog c.w) c.A (eval (.Name x p) c.env) Q E s := by
  obtain ⟨a, vs, hm, rd, pl, r⟩ := S.own x k l at'
  have kd := S.base.ok.kinds x k at'.mem
  have fin : Q (.ref a) s := K a vs hm rd pl r
  refine wpAny_Name ?_ hd
  cases k with
  | «local» => obtain ⟨m, hn, hv⟩ := rd; exact wpAny_loadName_local S.base.ok.kind kd hn hv fin
  | cell => obtain ⟨cc, hn, hv⟩ := rd; exact wpAny_loadName_cell S.base.ok.kind kd hn hv fin
  | free => obtain ⟨cc, hn, hv⟩ := rd; exact wpAny_loadName_free S.base.ok.kind kd hn hv fin hc
  | _ => exact rd.elim

inductive OwnItemP (l : List PV) (P : PV → Int × Int → Prop) (u : PV) (D : Int × Int) : Prop
  | mk (j : Int) (t : PV) (eu : u = .int j) (e : idx l j = some t) (hl : l.length ≤ sizeLine) (p : P t D) : OwnItemP l P u D
theorem ha_own_item {x : Str} {k : NameKind} {l : List PV} {px pos : Pos} {i : Expr} {P : PV → Int × Int → Prop} (at' : AtS ns τ x k (.own l)) (hF : Full τ σ)
    (H : HE c ns σ D i (OwnItemP l P))
    (hs : ∀ o v, subscripted i false o v = operate [o, v] (getItem o v) := by intro _ _; with_unfolding_all rfl)
    (hd : (x == ("__debug__" : Str)) = false := by decide) (hc : (x == ("__classdict__" : Str)) = false := by decide) : HA c ns τ D (.Subscript (.Name x px) i pos) P := fun hb W ow s Q E S K => by
  refine Subscript_ (own_name at' S (fun a vs hm rd pl r => ?_) hd hc)
  refine H s _ E (S.full hF) fun u D' v h' tk p S' kk r' => ?_
  obtain ⟨j, t, rfl, e, hl, p⟩ := p
  obtain ⟨u, rfl⟩ := r'
  have S₂ := S.next kk fun a q => (S'.dr a q).1
  have rl : Rep (c.plus (yof ow)).X h' (.list l) (.ref a) → False := fun ⟨b, _, q, hx, _⟩ => by cases q; exact hx (.inr (SSt.inY hm))
  have pl' : h'.PlainList a vs.toArray := pl.at fun o e => kk _ o (S.fresh _ hm).2.2.2 e
  have rr := SSt.next.Rep.kpl S r kk
  have g : wpAny (model c.prog c.w) c.A (getItem (.ref a) (.int j u)) Q E { s with heap := h', toks := tk } ∧ ({ s with heap := h', toks := tk } : Shared).TypeIs (.ref a) "list" := by
    have e' := e
    refine ⟨?_, pl'.isList.typeIs⟩
    rw [sizeLine_eq] at hl
    unfold idx at e
    split at e
    · rename_i h0
      obtain ⟨v, hv, rv⟩ := rr.at e
      have hi := (List.getElem?_eq_some_iff.mp e).1
      exact wpAny_getItem_list (s := { s with heap := h', toks := tk }) pl'.isList h0 (by omega) (by simpa using hv) (K t D' v h' tk p S₂ kk rv)
    · rename_i h0
      split at e
      · rename_i h1
        obtain ⟨v, hv, rv⟩ := rr.at e
        have hl' := rr.len
        exact wpAny_getItem_list_neg (s := { s with heap := h', toks := tk }) pl'.isList (by (exact zq67 h0)) (by simp; (exact zq104 h1 hl')) (by omega) (by simpa [hl'] using hv) (K t D' v h' tk p S₂ kk rv)
      · cases e
  exact subTail g.2 slot_list_getitem.lookup g.1 (hs _ _)

/-- names, one behind the other -/
inductive SetL (ns : Names) : STs → List (Str × PV) → STs → Prop
  | nil {τ : STs} : SetL ns τ [] τ
  | cons {τ τ' τ'' : STs} {x : Str} {t : PV} {k : NameKind} {r : List (Str × PV)} (sa : SetS ns τ x k (.val t) τ') (hk : LC k) (h : SetL ns τ' r τ'') : SetL ns τ ((x, t) :: r) τ''
inductive Sto (env : Env) : List (Value → Sem Unit) → List Str → Prop
  | nil : Sto env [] []
  | cons {f : Value → Sem Unit} {fs : List (Value → Sem Unit)} {x : Str} {xs : List Str} (hf : ∀ (M : Model) (A : Around) (v : Value) (Q : Unit → Shared → Prop) (E : Value → Shared → Prop) (s : Shared), wpAny M A (storeName env x v) Q E s → wpAny M A (f v) Q E s)
      (h : Sto env fs xs) : Sto env (f :: fs) (x :: xs)

theorem sst_setL {fs : List (Value → Sem Unit)} {xs : List Str} (st : Sto c.env fs xs) : ∀ {ts : List PV} {vs : List Value} {τ τ' : STs} {s : Shared} {Q : Unit → Shared → Prop} {E : Value → Shared → Prop}, ts.length = xs.length → SetL ns τ (xs.zip ts) τ' →
    SSt c hb W ow ns τ D s.heap → Reps (c.plus (yof ow)).X s.heap ts vs → (∀ h' tk, SSt c hb W ow ns τ' D h' → Q () { s with heap := h', toks := tk }) → wpAny (model c.prog c.w) c.A (assignInOrder fs vs) Q E s := by
  induction st with
  | nil =>
    intro ts vs τ τ' s Q E hl sl S r K
    have : ts = [] := List.length_eq_zero_iff.mp hl
    subst this
    cases sl
    exact wpAny_pure (K s.heap s.toks S)
  | @cons f fs x xs hf st ih =>
    intro ts vs τ τ' s Q E hl sl S r K
    match ts, hl with
    | t :: ts, hl =>
      obtain ⟨v, vs, rfl, r1, r2⟩ := r
      cases sl with
      | cons sa hk sl =>
        show wpAny _ _ (do holding vs (f v); assignInOrder fs vs) _ _ _
        refine wpAny_bind (wpAny_holding (hf _ _ _ _ _ _ (sst_store sa hk S r1 fun h₁ tk₁ S₁ k₁ => ?_)))
        refine ih (s := { s with heap := h₁, toks := tk₁ }) (by simpa using hl) sl S₁ (Reps.keep (fun b o hx e => ⟨hx, k₁ b o (fun fo => hx (.inl (S.cx.inX b fo))) e⟩) _ _ r2) fun h₂ tk₂ S₂ => K h₂ tk₂ S₂

inductive Nms : List Expr → List Str → Prop
  | nil : Nms [] []
  | cons {x : Str} {p : Pos} {es : List Expr} {xs : List Str} (h : Nms es xs) : Nms (.Name x p :: es) (x :: xs)
theorem Nms.each {env : Env} {es : List Expr} {xs : List Str} (h : Nms es xs) : Sto env ((assignEach es env).map (·.2)) xs ∧ (assignEach es env).length = xs.length ∧ (assignEach es env).findIdx? (·.1) = none := by
  induction h with
  | nil => exact ⟨.nil, rfl, rfl⟩
  | @cons x p es xs h ih =>
    have e1 : assignEach (.Name x p :: es) env = (false, assign (.Name x p) env) :: assignEach es env := rfl
    rw [e1]
    exact ⟨.cons (fun _ _ _ _ _ _ h => wpAny_assign_Name h) ih.1, by simp [ih.2.1], by rw [List.findIdx?_cons]; simpa using ih.2.2⟩
theorem Sto.bind {env : Env} : ∀ {xs : List Str}, Sto env (xs.map fun n => bindName env n) xs
  | [] => .nil
  | _ :: _ => .cons (fun _ _ _ _ _ _ h => wpAny_bindName h) Sto.bind

/-- what the stores of a tuple's names may be -/
noncomputable def SwOk (elts : List Expr) (xs : List Str) (k : Nat) (tp : Pos) (e : Expr) : Prop :=
  ∀ env : Env, env.scope.kind = .function → swappedStores [.Tuple elts k tp] e env = pure none ∨ swappedStores [.Tuple elts k tp] e env = pure (some xs)

theorem hs_tuple {elts : List Expr} {xs : List Str} {k : Nat} {tp pos : Pos} (nm : Nms elts xs) (sw : SwOk elts xs k tp e)
    (H : HA c ns τ D e fun t D' => ∃ ts τ', t = .tup ts ∧ ts.length = xs.length ∧ SetL ns τ (xs.zip ts) τ' ∧ SetL ns τ (xs.reverse.zip ts.reverse) τ' ∧ N τ' D')
    (hs : ∀ env, swapsWithSole [.Tuple elts k tp] e pos.line env = pure false := by intro _; rfl) : HS c ns τ D (.Assign [.Tuple elts k tp] e pos) N R := fun hb W ow s Q E S KN KR => by
  rcases sw c.env S.base.ok.kind with hw | hw
  · refine Assign_Tuple (H hb W ow s _ E S fun t D' v h' tk p S' kk r => ?_) (hs _) hw
    obtain ⟨ts, τ', rfl, hl, s1, s2, p⟩ := p
    obtain ⟨a, vs, rfl, hx, ht, rr⟩ := r
    have nm' := nm.each (env := c.env)
    refine wpAny_assign_Tuple S.base.room.1 ht (by rw [nm'.2.1, ← hl]; simp [rr.len]) nm'.2.2 fun h₁ he => ?_
    have kp₁ : ∀ b o, h'.get? b = some o → h₁.get? b = some o := fun b o e => he b o (Nat.ne_of_lt (Heap.lt_size e)) e
    exact sst_setL (s := { s with heap := h₁, toks := tk }) nm'.1 hl s1 (S'.ext kp₁) (Reps.keep (fun b o hx e => ⟨hx, kp₁ b o e⟩) _ _ rr) fun h₂ tk₂ S₂ => KN τ' D' ow h₂ tk₂ p S₂
  · refine Assign_Tuple_swapped (H hb W ow s _ E S fun t D' v h' tk p S' kk r => ?_) (hs _) hw
    obtain ⟨ts, τ', rfl, hl, s1, s2, p⟩ := p
    obtain ⟨a, vs, rfl, hx, ht, rr⟩ := r
    rw [show xs.length = vs.toArray.size by rw [← hl]; simp [rr.len]]
    refine unpackItems_tuple S.base.room.1 ht fun h₁ he => ?_
    have kp₁ : ∀ b o, h'.get? b = some o → h₁.get? b = some o := fun b o e => he b o (Nat.ne_of_lt (Heap.lt_size e)) e
    exact sst_setL (s := { s with heap := h₁, toks := tk }) Sto.bind (by simpa using hl) s2 (S'.ext kp₁) (Reps.keep (fun b o hx e => ⟨hx, kp₁ b o e⟩) _ _ rr).reverse fun h₂ tk₂ S₂ => KN τ' D' ow h₂ tk₂ p S₂

theorem nms_filter {f : Expr → Option Str} (hf : ∀ x p, f (.Name x p) = some x ∨ f (.Name x p) = none) {es : List Expr} {xs : List Str} (h : Nms es xs) : (es.filterMap f).length ≤ es.length ∧ ((es.filterMap f).length = es.length → es.filterMap f = xs) := by
  induction h with
  | nil => exact ⟨Nat.le_refl _, fun _ => rfl⟩
  | @cons x p es xs h ih =>
    rcases hf x p with q | q
    · rw [List.filterMap_cons_some q]
      exact ⟨by simp; exact ih.1, fun e => by rw [ih.2 (by simpa using e)]⟩
    · rw [List.filterMap_cons_none q]
      refine ⟨by simp; omega, fun e => ?_⟩
      simp at e; omega

theorem swok_lit {elts vs : List Expr} {xs : List Str} {k k' : Nat} {tp tp' : Pos} (nm : Nms elts xs) (h : vs.all (foldedForSure 8) = true ∨ vs.all (constantsAlone 8) = false) : SwOk elts xs k tp (.Tuple vs k' tp') := fun env hk => by
  unfold swappedStores
  dsimp only
  split
  · exact .inl rfl
  · split
    · exact .inl rfl
    · split
      · exact .inl rfl
      · rename_i hn
        split
        · exact .inl rfl
        · rename_i h8
          split
          · rename_i hc
            rcases h with h | h
            · exact absurd h h8
            · rw [hc] at h; cases h
          · refine .inr ?_
            congr 2
            refine (nms_filter (fun x p => ?_) nm).2 ?_
            · dsimp only; split
              · exact .inl rfl
              · exact .inr rfl
            · simp only [Bool.or_eq_true, not_or, bne_iff_ne, ne_eq, Decidable.not_not] at hn
              exact hn.1

/-- the store of a comprehension -/
theorem swaps_true {x : Str} {px pos : Pos} {elt : Expr} {gens : List Comprehension} {scope : Scope} {line : Nat} (env : Env) (hk : env.scope.kind = .function) (hx : env.kindOf x = some .local)
    (hl : (px.line == pos.line && !(scope.names.any fun (n, k) => n == x && (k == .local || k == .cell))) = true) : swapsWith (.ListComp elt gens scope pos) (some (.Name x px)) line env = pure true := by
  show (pure (env.blockKind == .function && env.kindOf x == some .local && px.line == pos.line && !(scope.names.any fun (n, k) => n == x && (k == .local || k == .cell))) : Sem Bool) = pure true
  have h1 : env.blockKind = .function := by unfold Env.blockKind; rw [hk]; rfl
  rw [h1, hx, Bool.and_assoc, hl]
  rfl

theorem SSt.offHead {y : Str} {C : Addr} (S : SSt c hb W ((y, C) :: ow) ns τ D h) (hC : ∀ vs, ¬ h.PlainList C vs) (hC0 : hb.get? C = none) (k : ∀ b o, b ≠ C → h.get? b = some o → h'.get? b = some o) : SSt c hb W ow ns τ D h' := by
  have fC := S.fresh _ List.mem_cons_self
  have foN : ∀ b, Fo c.env b → b ≠ C := fun b fo q => fC.2.1 (by rw [← show b = C from q]; exact S.cx.inX b fo)
  have dN : ∀ b, c.d = some b → b ≠ C := fun b q q' => fC.2.2.2 (by rw [q]; exact congrArg some q')
  have yN : ∀ p ∈ ow, p.2 ≠ C := fun p hp q => (List.pairwise_cons.mp S.apart).1 p hp q.symm
  have up : ∀ {t : PV} {v : Value}, Rep (c.plus (((y, C) :: ow).map (·.2))).X h t v → Rep (c.plus (ow.map (·.2))).X h' t v := fun {t v} r => Rep.keep (fun b o hx e => ⟨fun q => hx (q.elim .inl fun q => .inr (List.mem_cons_of_mem _ q)), k b o (fun q => hx (.inr (by rw [q]; exact List.mem_cons_self))) e⟩) t v r
  have ups : ∀ {t : List PV} {v : List Value}, Reps (c.plus (((y, C) :: ow).map (·.2))).X h t v → Reps (c.plus (ow.map (·.2))).X h' t v := fun {t v} r => Reps.keep (fun b o hx e => ⟨fun q => hx (q.elim .inl fun q => .inr (List.mem_cons_of_mem _ q)), k b o (fun q => hx (.inr (by rw [q]; exact List.mem_cons_self))) e⟩) t v r
  have hbC : ∀ b o, ¬ W b → hb.get? b = some o → b ≠ C := fun b o hw e q => by
    subst q
    rcases fC.1 with w | w
    · exact hw w
    · exact noS (show hb.get? b = none from w) e
  refine { base := { base := fun b o e => k b o (fun q => noS (show c.g₀.get? b = none by rw [q]; exact fC.2.2.1) e) (S.base.base b o e), vars := fun y kd t at' => ?_, dr := fun b q => ⟨(S.base.dr b q).1.keep fun o e => k b o (dN b q) e, .inl (S.dX b q).1, (S.base.dr b q).2.2⟩, cx := ⟨fun b q => .inl (S.cx.inX b q), S.cx.apart, S.cx.ne, S.cx.new, S.cx.dne⟩, live := fun b hb => ?_, ok := S.base.ok, gl := S.base.gl, room := S.base.room }, own := fun y kd l at' => ?_, apart := (List.pairwise_cons.mp S.apart).2, fresh := fun p hp => S.fresh p (List.mem_cons_of_mem _ hp), fr := S.fr.keep fun b o fo e => k b o (foN b fo) e, kp := fun b o hw e => k b o (hbC b o hw e) (S.kp b o hw e), cx := S.cx, dX := S.dX, fo := S.fo, lv := fun b hb' => ?_ }
  · obtain ⟨v, r, rp⟩ := S.base.vars y kd t at'
    exact ⟨v, fo_reads r fun b o fo e => k b o (foN b fo) e, up rp⟩
  · rcases hb with q | q
    · obtain ⟨o, e⟩ := S.base.live b (.inl q); exact ⟨o, k b o (fun z => fC.2.1 (by rw [← show b = C from z]; exact q)) e⟩
    · obtain ⟨p, hp, rfl⟩ := List.mem_map.mp q
      obtain ⟨o, e⟩ := S.base.live p.2 (.inr (SSt.inY (List.mem_cons_of_mem _ hp))); exact ⟨o, k _ o (yN p hp) e⟩
  · obtain ⟨ad, vs, hm, r, pl, rr⟩ := S.own y kd l at'
    have hm' : (y, ad) ∈ ow := by
      rcases List.mem_cons.mp hm with q | q
      · cases q; exact absurd pl (hC _)
      · exact q
    exact ⟨ad, vs, hm', fo_reads r fun b o fo e => k b o (foN b fo) e, pl.at fun o e => k _ o (yN _ hm') e, ups rr⟩
  · by_cases q : b = C
    · subst q
      obtain ⟨o, e⟩ := hb'; exact noS (show hb.get? b = none from hC0) e
    · obtain ⟨o, e⟩ := S.lv b hb'; exact ⟨o, k b o q e⟩
end
end Mine
namespace Mine

section
variable {c : Cx} {hb : Heap} {W : Addr → Prop} {ow : List (Str × Addr)} {ns : Names} {τ τ' τ'' : STs} {D D' : Int × Int} {h h' : Heap} {e : Expr} {N : SN} {R : SR} {σ : Vals}

theorem ns_noList {h : Heap} {C : Addr} {m : Str → Option Value} (n : h.Ns C m) : ∀ vs, ¬ h.PlainList C vs := fun vs p => by
  obtain ⟨o, es, ep, ho, hd, _⟩ := n
  obtain ⟨k, e⟩ := p
  rw [ho] at e; cases e; cases hd

inductive CompSP (ns : Names) (τ : STs) (x : Str) (N : SN) (t : PV) (D : Int × Int) : Prop
  | mk (ys : List PV) (e : t = .list ys) (fl : ∀ t ∈ ys, flat t) (sv : SV) (τ' : STs) (h : sv = .val (.list ys) ∨ sv = .own ys) (sa : SetS ns τ x .local sv τ') (p : N τ' D) : CompSP ns τ x N t D
inductive ChgP (ns : Names) (τ : STs) (x : Str) (k : NameKind) (N : SN) (l : List PV) (D : Int × Int) : Prop
  | mk (τ' : STs) (sa : SetS ns τ x k (.own l) τ') (p : N τ' D) : ChgP ns τ x k N l D
inductive SetP (ns : Names) (τ : STs) (x : Str) (k : NameKind) (l : List PV) (N : SN) (t : PV) (D₁ : Int × Int) (u : PV) (D : Int × Int) : Prop
  | mk (j : Int) (e : u = .int j) (p : 0 ≤ j ∧ j < l.length ∧ j < 2 ^ 63 ∧ ∃ τ', SetS ns τ x k (.own (l.set j.toNat t)) τ' ∧ D = D₁ ∧ N τ' D₁) : SetP ns τ x k l N t D₁ u D
/-- x = [ ... for ... ] -/
theorem hs_comp {x : Str} {px spos : Pos} {scope : Scope} {ns' : Names} {σ' : Vals} {elt iter tgt : Expr} {ifs : List Expr} {pos : Pos} (hF : Full τ σ) (so : ScOk scope) (cap : Cap ns σ scope.names ns' σ')
    (H : HI c ns σ D iter tgt fun items D₁ => CompOk c ns' σ' tgt ifs elt (CompSP ns τ x N) items D₁)
    (hl : (px.line == pos.line && !(scope.names.any fun (n, k) => n == x && (k == .local || k == .cell))) = true) (hx : (x, NameKind.local) ∈ ns)
    (hs : ∀ env x, foldedSetIterable iter env x = pure x := by intro _ _; rfl) :
    HS c ns τ D (.Assign [.Name x px] (.ListComp elt [⟨tgt, iter, ifs, 0⟩] scope pos) spos) N R := fun hb W ow s Q E S KN KR => by
  have Sf := S.full hF
  have kd := Sf.ok.kinds x _ hx
  show wpAny _ _ (exec _ c.env) Q E s
  rw [exec_Assign_Name_used x px _ spos (swaps_true c.env Sf.ok.kind kd hl)]
  refine wpAny_bind (wpAny_standAt (wpAny_bind ?_))
  show wpAny _ c.A (do let _ ← comprehension (.ListComp elt [⟨tgt, iter, ifs, 0⟩] scope pos) scope c.env _ (newList []) false (eval iter c.env) (some (assign (.Name x px) c.env))) _ _ s
  refine wpAny_bind (wpAny_mono (wpAny_comprehension_free (use := some (assign (.Name x px) c.env)) (Q := fun _ s' => Q .next s') rfl (hs _) (closureFor_eq (capClosed so cap Sf)) so.kind so.names
    (H s _ E Sf fun items D₁ I own St Mid h₁ tk₁ hp S₁ k₁ IT st0 hfr => ?_)) (fun _ s' hq => wpAny_pure (wpAny_pure hq)) fun _ _ e => e)
  obtain ⟨hsz, J, j0, body, fin⟩ := hp
  have hd : ∀ a, c.d = some a → c.X a := fun a q => (S.dX a q).1
  have hg : ∀ b ∈ own, c.g₀.get? b = none ∧ c.d ≠ some b := fun b hb => by
    refine ⟨?_, fun q => ?_⟩
    · cases e : c.g₀.get? b with
      | none => rfl
      | some o => exact noS (hfr b hb) (Sf.base b o e)
    · obtain ⟨_, f, ⟨o, es, ep, ho, _⟩, _⟩ := (Sf.dr _ q).1
      exact noS (hfr b hb) ho
  refine comp_core (s₂ := { s with heap := h₁, toks := tk₁ }) so cap S₁ Sf.cx hd hg IT st0 J j0 hsz body (RR := fun acc C => compPost (model c.prog c.w) c.A E (some (assign (.Name x px) c.env)) (fun _ s' => Q .next s') acc C) ?_
  intro D' ys acc C h' tk m' hJ hys S' kp hn hDC accN CN r
  obtain ⟨_, e0, fl, sv, τ', hsv, sa, p⟩ := fin D' ys hJ
  cases e0
  show wpAny _ c.A (assign (.Name x px) c.env (.ref acc)) _ _ _
  refine wpAny_assign_Name ?_
  have kk : Kp c.d s.heap h' := fun b o hq e => kp b o (fun q => noS (hfr b q) e) hq (k₁ b o hq e)
  have accS : s.heap.get? acc = none := (S₁.minus Sf.cx hd).fresh k₁ accN
  have CS : s.heap.get? C = none := (S₁.minus Sf.cx hd).fresh k₁ CN
  have accA : ∃ o, h'.get? acc = some o := by obtain ⟨_, vs, e, _, ⟨n, e'⟩, _⟩ := r; cases e; exact ⟨_, e'⟩
  have CA : ∃ o, h'.get? C = some o := by obtain ⟨o, _, _, e, _⟩ := hn; exact ⟨o, e⟩
  have dr : ∀ a, c.d = some a → DrawsAt c.prog c.w h' a D' := fun a q => (S'.dr a q).1
  have hbC : hb.get? C = none := by
    cases e : hb.get? C with
    | none => rfl
    | some o => obtain ⟨o', e'⟩ := S.lv C ⟨o, e⟩; rw [CS] at e'; cases e'
  have nX : ∀ b, s.heap.get? b = none → ¬ c.X b := fun b hb q => by obtain ⟨o, e⟩ := S.base.live b (.inl q); exact noS (hb) e
  have nY : ∀ b, s.heap.get? b = none → b ∉ yof ow := fun b hb q => by obtain ⟨o, e⟩ := S.base.live b (.inr q); exact noS (hb) e
  obtain ⟨acc', vs, e, _, pl, rr⟩ := r
  cases e
  rcases hsv with rfl | rfl
  · have S₂ : SSt c hb W (("", C) :: ow) ns τ D' h' := S.reserve kk dr CS CA
    refine sst_store (s := { s with heap := h', toks := tk }) sa (.inl rfl) S₂ (rep_list (fun q => ?_) pl (flat.reps fl rr)) fun h₂ tk₂ S₃ k₃ => ?_
    · rcases q with q | q
      · exact nX _ accS q
      · rcases List.mem_cons.mp q with q | q
        · exact hDC q
        · exact nY _ accS q
    · have hn₂ : h₂.Ns C m' := Heap.Ns.one hn fun o e => k₃ _ o (fun fo => S₂.foY _ List.mem_cons_self fo) e
      exact ⟨m', hn₂, fun h₃ sb => KN τ' D' ow h₃ tk₂ p (S₃.offHead (ns_noList hn₂) hbC fun b o hb e => sb.extBut b o hb e)⟩
  · have S₂ : SSt c hb W (("", C) :: (x, acc) :: ow) ns τ D' h' := S.reserveL kk dr [("", C), (x, acc)] (fun p hp => by
      rcases List.mem_cons.mp hp with rfl | hp
      · exact ⟨CS, CA⟩
      · rw [List.mem_singleton.mp hp]; exact ⟨accS, accA⟩) (by simp; exact fun q => hDC q.symm)
    refine sst_own (s := { s with heap := h', toks := tk }) sa (.inl rfl) S₂ (List.mem_cons_of_mem _ List.mem_cons_self) pl (flat.reps fl rr) fun h₂ tk₂ S₃ k₃ => ?_
    have hn₂ : h₂.Ns C m' := Heap.Ns.one hn fun o e => k₃ _ o (fun fo => S₂.foY _ List.mem_cons_self fo) e
    exact ⟨m', hn₂, fun h₃ sb => KN τ' D' _ h₃ tk₂ p (S₃.offHead (ns_noList hn₂) hbC fun b o hb e => sb.extBut b o hb e)⟩

/-- x.append(e) -/
theorem hs_append {x : Str} {k : NameKind} {l : List PV} {px apos cpos pos : Pos} (at' : AtS ns τ x k (.own l)) (hl : l.length ≤ sizeLine)
    (H : HA c ns τ D e fun t D' => ChgP ns τ x k N (l ++ [t]) D')
    (hline : (apos.endLine == cpos.line) = true) (hp : ∀ env, starEach [e] env = [(false, eval e env)] := by intro _; rfl)
    (hd : (x == ("__debug__" : Str)) = false := by decide) (hc : (x == ("__classdict__" : Str)) = false := by decide) :
    HS c ns τ D (.Expr (.Call (.Attribute (.Name x px) "append" apos) [e] [] cpos) pos) N R := fun hb W ow s Q E S KN KR => by
  refine wpAny_Expr_any ?_ (by show interactive c.env = false; unfold interactive; rw [show c.env.scope.kind = _ from S.base.ok.kind]; rfl) rfl
  refine wpAny_Call_method rfl (by rw [hp]; rfl) hline PySem.F.plainAttrs_list PySem.F.slot_list_append PySem.F.type_list_append ?_
  refine own_name at' S (fun a vs hm rd pl r => ?_) hd hc
  obtain ⟨n₀, pl0⟩ := pl
  have pl0' : s.heap.get? a = some { cls := .type "list", dict := none, data := .seq vs.toArray n₀, slots := #[] } := pl0
  refine ⟨⟨_, pl0', rfl⟩, fun b q => ⟨_, by cases q; exact pl0', rfl⟩, ?_⟩
  rw [hp]
  show wpAny _ _ (callWith cpos (.builtin "list.append") [.ref a] [(false, eval e c.env)] []) _ _ _
  refine P.append_list (H hb W ow s _ E S fun t D' v h' tk p S' kk rv => ?_)
  obtain ⟨τ', sa, p⟩ := p
  have pl' : IsL h' a vs.toArray n₀ := kk _ _ (S.fresh _ hm).2.2.2 pl0
  have r' := SSt.next.Rep.kpl S r kk
  refine ⟨vs.toArray, n₀, by simp [r.len]; exact hl, pl', ?_⟩
  have rd' : Reads c.env h' x (.ref a) k := fo_reads rd fun b o fo e => kk b o (S.cx.dne b fo) e
  refine KN τ' D' ow _ tk p (S'.mut at' hm rd' sa (ws := vs ++ [v]) (fun b o hb e => (Heap.get?_update_other _ _ (fun q => hb q.symm)).trans e) ?_ (r'.append (Reps.one rv)))
  rw [show (vs ++ [v]).toArray = vs.toArray.push v by simp]
  exact ⟨_, pl'.update fun xs => xs.push v⟩

/-- x.pop() -/
theorem hs_pop {x : Str} {k : NameKind} {l : List PV} {px apos cpos pos : Pos} (at' : AtS ns τ x k (.own l)) (hl : l.length ≤ sizeLine) (hne : l ≠ [])
    (H : ∃ τ', SetS ns τ x k (.own l.dropLast) τ' ∧ N τ' D)
    (hline : (apos.endLine == cpos.line) = true)
    (hd : (x == ("__debug__" : Str)) = false := by decide) (hc : (x == ("__classdict__" : Str)) = false := by decide) :
    HS c ns τ D (.Expr (.Call (.Attribute (.Name x px) "pop" apos) [] [] cpos) pos) N R := fun hb W ow s Q E S KN KR => by
  refine wpAny_Expr_any ?_ (by show interactive c.env = false; unfold interactive; rw [show c.env.scope.kind = _ from S.base.ok.kind]; rfl) rfl
  refine wpAny_Call_method rfl rfl hline PySem.F.plainAttrs_list PySem.F.slot_list_pop PySem.F.type_list_pop ?_
  refine own_name at' S (fun a vs hm rd pl r => ?_) hd hc
  obtain ⟨n₀, pl0⟩ := pl
  have pl0' : s.heap.get? a = some { cls := .type "list", dict := none, data := .seq vs.toArray n₀, slots := #[] } := pl0
  refine ⟨⟨_, pl0', rfl⟩, fun b q => ⟨_, by cases q; exact pl0', rfl⟩, ?_⟩
  obtain ⟨τ', sa, p⟩ := H
  have hlen := r.len
  have hpos : 0 < vs.length := by rw [hlen]; exact List.length_pos_iff.mpr hne
  show wpAny _ _ (callWith cpos (.builtin "list.pop") [.ref a] [] []) _ _ _
  refine P.pop_list (y := vs[vs.length - 1]) pl0 (by simp [hpos]) ?_ (by simp [hlen]; exact hl)
  refine KN τ' D ow _ s.toks p (S.mut at' hm rd sa (ws := vs.dropLast) (fun b o hb e => (Heap.get?_update_other _ _ (fun q => hb q.symm)).trans e) ?_ r.dropLast)
  rw [show vs.dropLast.toArray = vs.toArray.eraseIdxIfInBounds (vs.toArray.size - 1) by
    rw [Array.eraseIdxIfInBounds_eq, dif_pos (show vs.toArray.size - 1 < vs.toArray.size by simp; (exact zq7 hpos))]
    apply Array.ext'
    simp [List.dropLast_eq_take, List.eraseIdx_eq_take_drop_succ]
    (exact zq241 hpos)]
  exact ⟨_, IsL.update pl0 fun xs => xs.eraseIdxIfInBounds (vs.toArray.size - 1)⟩

/-- x[i] = v -/
theorem setItem_plain {l : Addr} {items : Array Value} {n₀ : Nat} {k : Int} {t : Tok} {v : Value} {prog : Program} {w : World} {A : Around} {s : Shared} {Q : Unit → Shared → Prop} {E : Value → Shared → Prop} (hl : IsL s.heap l items n₀)
    (h0 : 0 ≤ k) (hfit : k < 2 ^ 63) (hn : k < items.size)
    (hQ : ∀ h', h'.PlainList l (items.setIfInBounds k.toNat v) → Heap.SameBut l s.heap h' → Q () { s with heap := h' }) :
    wpAny (model prog w) A (setItem (.ref l) (.int k t) v) Q E s := by
  have hT : s.TypeIs (.ref l) "list" := ⟨_, hl, rfl⟩
  unfold setItem
  try with_reducible refine wpAny_holding ?_
  first | refine wpAny_bind (wpAny_pure ?_) | skip
  refine wpAny_bind (wpAny_sequenceKey hT (by decide) ?_)
  refine wpAny_bind (wpAny_callSpecial?_slot (name := Str.ofString "__setitem__") hT slot_list_setitem
    (wpAny_call_entry slot_list_setitem hT entry_list_setitem ?_ (args_list_setitem _ _ _)))
  show wpAny _ _ (Builtin.List.listSubscript? (.int k t) >>= _) _ _ s
  refine wpAny_bind (wpAny_listSubscript_int (fitsIndex_of h0 hfit) ?_)
  clear hfit
  obtain ⟨j, rfl⟩ := Int.eq_ofNat_of_zero_le h0
  have hj : j < items.size := by (exact zq353 hn)
  have hx' : items[j]? = some items[j] := Array.getElem?_eq_getElem hj
  show wpAny _ _ ((seqItemAt l j >>= fun r => pure (r.map (j, ·))) >>= _) _ _ s
  refine wpAny_bind (wpAny_bind (wpAny_seqItemAt hl rfl (wpAny_pure ?_)))
  rw [hx']
  show wpAny _ _ (setSeqItemAt l j v >>= _) _ _ s
  have hfin : (s.heap.update l (Obj.mapSeq (·.setIfInBounds j v))).PlainList l (items.setIfInBounds j v) := ⟨_, hl.update fun xs => xs.setIfInBounds j v⟩
  refine wpAny_bind (wpAny_setSeqItemAt hl rfl ?_)
  first
    | exact wpAny_bind (wpAny_pure (wpAny_pure ⟨.none, rfl, wpAny_pure (hQ _ hfin (Heap.SameBut.update ..))⟩))
    | exact wpAny_pure ⟨.none, rfl, wpAny_pure (hQ _ hfin (Heap.SameBut.update ..))⟩

/-- the store of a value into an own list -/
theorem sub_store {x : Str} {k : NameKind} {l : List PV} {px : Pos} {i : Expr} {t : PV} {v : Value} (at' : AtS ns τ x k (.own l)) (hF : Full τ σ) {s : Shared} {Q : Unit → Shared → Prop} {E : Value → Shared → Prop} (S : SSt c hb W ow ns τ D s.heap) (rv : Rep (c.plus (yof ow)).X s.heap t v)
    (H : HE c ns σ D i fun u D' => ∃ j : Int, u = .int j ∧ 0 ≤ j ∧ j < l.length ∧ j < 2 ^ 63 ∧ ∃ τ', SetS ns τ x k (.own (l.set j.toNat t)) τ' ∧ D' = D ∧ ∀ h' tk, SSt c hb W ow ns τ' D h' → (∀ b o, b ∉ yof ow → c.d ≠ some b → s.heap.get? b = some o → h'.get? b = some o) → Q () { s with heap := h', toks := tk })
    (hd : (x == ("__debug__" : Str)) = false := by decide) (hc : (x == ("__classdict__" : Str)) = false := by decide) :
    wpAny (model c.prog c.w) c.A (eval (.Name x px) c.env) (fun ov s₂ => wpAny (model c.prog c.w) c.A (eval i c.env) (fun iv s₃ => wpAny (model c.prog c.w) c.A (setItem ov iv v) Q E s₃) E s₂) E s := by
  refine own_name at' S (fun a vs hm rd pl r => ?_) hd hc
  refine H s _ E (S.full hF) fun u D' iv h' tk p S' kk ri => ?_
  obtain ⟨j, rfl, h0, hj, h63, τ', sa, rfl, K⟩ := p
  obtain ⟨u, rfl⟩ := ri
  have S₂ := S.next kk fun a q => (S'.dr a q).1
  obtain ⟨n₀, pl0⟩ := pl
  have pl' : IsL h' a vs.toArray n₀ := kk _ _ (S.fresh _ hm).2.2.2 pl0
  have r' := SSt.next.Rep.kpl S r kk
  have rv' := S.up kk rv
  refine setItem_plain (s := { s with heap := h', toks := tk }) pl' h0 h63 (by simp [r.len]; exact hj) fun h₂ p₂ sb => ?_
  have rd' : Reads c.env h' x (.ref a) k := fo_reads rd fun b o fo e => kk b o (S.cx.dne b fo) e
  refine K h₂ tk (S₂.mut at' hm rd' sa (ws := vs.set j.toNat v) (fun b o hb e => sb.extBut b o hb e) ?_ (r'.set _ rv')) fun b o hb hq e => sb.extBut b o (fun q => hb (by rw [q]; exact SSt.inY hm)) (kk b o hq e)
  simpa using p₂

theorem hs_set {x : Str} {k : NameKind} {l : List PV} {px pos pos' : Pos} {i : Expr} (at' : AtS ns τ x k (.own l)) (hF : Full τ σ)
    (H : HA c ns τ D e fun t D₁ => HE c ns σ D₁ i (SetP ns τ x k l N t D₁))
    (hs : ∀ env, swapsWith e (some (.Subscript (.Name x px) i pos')) pos.line env = pure false := by intro _; rfl)
    (hd : (x == ("__debug__" : Str)) = false := by decide) (hc : (x == ("__classdict__" : Str)) = false := by decide) :
    HS c ns τ D (.Assign [.Subscript (.Name x px) i pos'] e pos) N R := fun hb W ow s Q E S KN KR => by
  refine wpAny_Assign_Subscript ?_ (hs _)
  refine H hb W ow s _ E S fun t D₁ v h₁ tk₁ p S₁ k₁ r₁ => ?_
  refine sub_store at' hF (s := { s with heap := h₁, toks := tk₁ }) S₁ r₁ (p.mono fun u D' q => ?_) hd hc
  obtain ⟨j, rfl, h0, hj, h63, τ', sa, rfl, n⟩ := q
  exact ⟨j, rfl, h0, hj, h63, τ', sa, rfl, fun h' tk S' _ => KN τ' D' ow h' tk n S'⟩
end
end Mine
namespace Mine

/-- where a def of the text stands -/
noncomputable def DefAt (g₀ : Heap) (mg : Str → Option Value) (name : Str) (params : Arguments) (body : List Stmt) (scope : Scope) : Prop :=
  ∃ a o pm code doc, mg name = some (.ref a) ∧ g₀.get? a = some o ∧ o.data = .func (docDef name params body scope pm code doc) ∧ g₀.CodeRec code name

theorem rec_mem {p : Program} {name : Str} {a : Arguments} {b : List Stmt} {sc : Scope} (hdef : p.theDef name = some (a, b, sc)) (h1 : a.defaults = []) (h2 : kwLiteralsOf? a.kwonlyargs a.kw_defaults = some []) : ∃ pos, (⟨name, a, b, sc, pos⟩ : DefRec) ∈ recsOf p := by
  have hd := hdef
  unfold Program.theDef at hdef
  generalize hl : (p.main.body.filter (fun st => match st with | .FunctionDef n .. => n == name | _ => false)) = l at hdef
  split at hdef
  · rename_i n args body ret sc' tp cm pos
    cases hdef
    have hm : Stmt.FunctionDef n a b [] ret [] sc tp cm pos ∈ p.main.body.filter (fun st => match st with | .FunctionDef n .. => n == name | _ => false) := by rw [hl]; exact List.mem_cons_self
    obtain ⟨hm', hn⟩ := List.mem_filter.mp hm
    have hn : n = name := by simpa using hn
    subst hn
    refine ⟨pos, List.mem_filterMap.mpr ⟨_, hm', ?_⟩⟩
    dsimp only
    rw [hd]
    simp only [h1, h2]
  · cases hdef

inductive Ini (xs : List Str) (ts : List PV) : Names → STs → Prop
  | nil : Ini xs ts [] []
  | no {p : Str × NameKind} {ns : Names} {τ : STs} (h : Ini xs ts ns τ) : Ini xs ts (p :: ns) (.no :: τ)
  | val {x : Str} {k : NameKind} {t : PV} {ns : Names} {τ : STs} (e : (xs.zip ts).lookup x = some t) (hk : LC k) (h : Ini xs ts ns τ) : Ini xs ts ((x, k) :: ns) (.val t :: τ)
theorem Ini.at {xs : List Str} {ts : List PV} {ns : Names} {τ : STs} (h : Ini xs ts ns τ) : ∀ {x k v}, AtS ns τ x k v → v = .no ∨ ∃ t, v = .val t ∧ (xs.zip ts).lookup x = some t ∧ LC k := by
  induction h with
  | nil => intro x k v a; exact AtG.none_of a
  | no h ih =>
    intro x k v a
    rcases AtG.inv a with ⟨_, e⟩ | a
    · exact .inl e.symm
    · exact ih a
  | val e hk h ih =>
    intro x k v a
    rcases AtG.inv a with ⟨e1, e2⟩ | a
    · cases e1; exact .inr ⟨_, e2.symm, e, hk⟩
    · exact ih a

theorem bindL_not (kindOf : Str → Option NameKind) : ∀ (l : List (Str × Value)) (m : Str → Option Value) (x : Str), x ∉ l.map (·.1) → bindL kindOf l m x = m x
  | [], _, _, _ => rfl
  | (n, v) :: r, m, x, h => by
    unfold bindL
    rw [bindL_not kindOf r _ x (fun q => h (List.mem_cons_of_mem _ q))]
    have hx : x ≠ n := fun q => h (by rw [q]; exact List.mem_cons_self)
    split
    · simp [hx]
    · rfl
theorem bindC_not (kindOf : Str → Option NameKind) : ∀ (l : List (Str × Value)) (m : Str → Option Value) (x : Str), x ∉ l.map (·.1) → bindC kindOf l m x = m x
  | [], _, _, _ => rfl
  | (n, v) :: r, m, x, h => by
    unfold bindC
    rw [bindC_not kindOf r _ x (fun q => h (List.mem_cons_of_mem _ q))]
    have hx : x ≠ n := fun q => h (by rw [q]; exact List.mem_cons_self)
    split
    · rfl
    · simp [hx]
theorem bindL_at (kindOf : Str → Option NameKind) : ∀ (l : List (Str × Value)) (m : Str → Option Value) (x : Str) (v : Value), (l.map (·.1)).Nodup → l.lookup x = some v → kindOf x = some .local → bindL kindOf l m x = some v
  | (n, w) :: r, m, x, v, nd, h, hk => by
    unfold bindL
    have nd' := List.nodup_cons.mp nd
    rw [List.lookup_cons] at h
    by_cases q : x = n
    · subst q
      simp only [beq_self_eq_true] at h
      cases h
      rw [bindL_not kindOf r _ x nd'.1, if_pos hk]; simp
    · have : (x == n) = false := by simpa using q
      rw [this] at h
      exact bindL_at kindOf r _ x v nd'.2 h hk
theorem bindC_at (kindOf : Str → Option NameKind) : ∀ (l : List (Str × Value)) (m : Str → Option Value) (x : Str) (v : Value), (l.map (·.1)).Nodup → l.lookup x = some v → kindOf x ≠ some .local → bindC kindOf l m x = some v
  | (n, w) :: r, m, x, v, nd, h, hk => by
    unfold bindC
    have nd' := List.nodup_cons.mp nd
    rw [List.lookup_cons] at h
    by_cases q : x = n
    · subst q
      simp only [beq_self_eq_true] at h
      cases h
      rw [bindC_not kindOf r _ x nd'.1, if_neg hk]; simp
    · have : (x == n) = false := by simpa using q
      rw [this] at h
      exact bindC_at kindOf r _ x v nd'.2 h hk
theorem cellsFrom_acc : ∀ (names : List (Str × NameKind)) (n : Nat) (acc : List (Str × Addr)) (x : Str), ((acc.lookup x).isSome = true ∨ (x, NameKind.cell) ∈ names) → ((cellsFrom n names acc).lookup x).isSome = true
  | [], n, acc, x, h => h.elim id fun q => nomatch q
  | (y, k) :: r, n, acc, x, h => by
    unfold cellsFrom
    split
    · refine cellsFrom_acc r _ _ x ?_
      by_cases q : x = y
      · subst q; exact .inl (by simp [List.lookup_cons])
      · have hb : (x == y) = false := by simpa using q
        rcases h with h | h
        · exact .inl (by rw [List.lookup_cons, hb]; exact h)
        · rcases List.mem_cons.mp h with e | e
          · exact absurd (congrArg Prod.fst e) q
          · exact .inr e
    · rename_i hk
      refine cellsFrom_acc r _ _ x ?_
      rcases h with h | h
      · exact .inl h
      · rcases List.mem_cons.mp h with e | e
        · cases e; exact absurd rfl hk
        · exact .inr e

theorem cellsFrom_nodup : ∀ (names : List (Str × NameKind)) (n : Nat) (acc : List (Str × Addr)), (names.map (·.1)).Nodup → (acc.map (·.1)).Nodup → (∀ x ∈ acc.map (·.1), x ∉ names.map (·.1)) → ((cellsFrom n names acc).map (·.1)).Nodup
  | [], n, acc, _, h, _ => h
  | (y, k) :: r, n, acc, nd, h, hd => by
    have nd' := List.nodup_cons.mp nd
    unfold cellsFrom
    split
    · refine cellsFrom_nodup r _ _ nd'.2 (List.nodup_cons.mpr ⟨fun q => hd y q List.mem_cons_self, h⟩) fun x hx => ?_
      rcases List.mem_cons.mp hx with rfl | hx
      · exact nd'.1
      · exact fun q => hd x hx (List.mem_cons_of_mem _ q)
    · exact cellsFrom_nodup r _ _ nd'.2 h fun x hx q => hd x hx (List.mem_cons_of_mem _ q)
theorem lookup_of_memA {l : List (Str × Addr)} (nd : (l.map (·.1)).Nodup) {x : Str} {b : Addr} (h : (x, b) ∈ l) : l.lookup x = some b := by
  induction l with
  | nil => cases h
  | cons p r ih =>
    obtain ⟨y, k'⟩ := p
    have nd' := List.nodup_cons.mp nd
    rw [List.lookup_cons]
    rcases List.mem_cons.mp h with q | q
    · cases q; simp
    · have : (x == y) = false := by
        have : x ≠ y := by rintro rfl; exact nd'.1 (List.mem_map.mpr ⟨_, q, rfl⟩)
        simpa using this
      rw [this]; exact ih nd'.2 q

theorem zip_lookup {X : Addr → Prop} {h : Heap} : ∀ {xs : List Str} {ts : List PV} {vs : List Value} {x : Str} {t : PV}, Reps X h ts vs → (xs.zip ts).lookup x = some t → ∃ v, (xs.zip vs).lookup x = some v ∧ Rep X h t v
  | [], _, _, _, _, _, e => by simp at e
  | _ :: _, [], _, _, _, _, e => by simp at e
  | y :: xs, t' :: ts, vs, x, t, r, e => by
    obtain ⟨v, vs, rfl, r1, r2⟩ := r
    rw [List.zip_cons_cons, List.lookup_cons] at e ⊢
    by_cases q : x = y
    · subst q
      simp only [beq_self_eq_true] at e ⊢
      cases e
      exact ⟨v, rfl, r1⟩
    · have hb : (x == y) = false := by simpa using q
      rw [hb] at e ⊢
      exact zip_lookup r2 e

structure FnOk (name : Str) (params : Arguments) (body : List Stmt) (scope : Scope) (xs : List Str) : Prop where
  kind : scope.kind = .function
  co : scope.isCoroutine = false
  gen : scope.isGenerator = false
  nodup : (scope.names.map (·.1)).Nodup
  ps : ∀ x ∈ xs, scope.names.lookup x = some .local ∨ scope.names.lookup x = some .cell
  nd : xs.Nodup
  bind : ∀ pm code doc (vs : List Value), vs.length = xs.length → bindArgs (docDef name params body scope pm code doc) ⟨vs, []⟩ = pure (xs.zip vs)

theorem mem_of_lk {l : Names} {x : Str} {k : NameKind} (h : l.lookup x = some k) : (x, k) ∈ l := mem_of_lookup h

/-- a call, its body walked as it stands -/
theorem call_raw {prog : Program} {w : World} {g₀ : Heap} {mg : Str → Option Value} (d : Option Addr) {name : Str} {params : Arguments} {body : List Stmt} {scope : Scope} {xs : List Str} {n : Nat}
    (F : DefAt g₀ mg name params body scope) (ok : FnOk name params body scope xs) :
    ∃ a fd o, mg name = some (.ref a) ∧ g₀.get? a = some o ∧ o.data = .func fd ∧
      ∀ (A : Around) (X : Addr → Prop) (D : Int × Int) (s : Shared) (vs : List Value) (ts : List PV) (Q : Value → Shared → Prop) (E : Value → Shared → Prop),
        Room A (n + 1) → GOk g₀ mg → (∀ b o, g₀.get? b = some o → s.heap.get? b = some o) → (∀ a, d = some a → DrawsAt prog w s.heap a D ∧ X a ∧ g₀.get? a = none) → (∀ b, X b → ∃ o, s.heap.get? b = some o) →
        Reps X s.heap ts vs →
        (∀ (env : Env) (X' : Addr → Prop), Room (A.deeper env) n → ts.length = xs.length ∧ ∃ τ, Ini xs ts scope.names τ ∧ ∀ (h₁ : Heap) (tk : Tok) (E' : Value → Shared → Prop), (∀ b, X b → X' b) →
          SSt { prog := prog, w := w, g₀ := g₀, mg := mg, d := d, A := A.deeper env, env := env, X := X' } s.heap (fun b => d = some b) [] scope.names τ D h₁ →
          wpAny (model prog w) (A.deeper env) (execs body env) (fun f s' => Q (match f with | .ret v => v | _ => .none) s') E' { s with heap := h₁, toks := tk }) →
        wpAny (model prog w) A (call (.ref a) vs) Q E s := by
  obtain ⟨a, o, pm, code, doc, hm, ho, hdat, hcd⟩ := F
  refine ⟨a, _, o, hm, ho, hdat, fun A X D s vs ts Q E R G base dr live r H => ?_⟩
  have hfr : ∀ b, s.heap.objs.size ≤ b → s.heap.get? b = none := fun b hb => Heap.get?_none_of_le hb
  generalize hL : s.heap.objs.size = L at hfr
  obtain ⟨hlen, τ, ini, hb⟩ := H (envOfC name scope L a code) (fun b => X b ∨ Fo (envOfC name scope L a code) b) R.deeper
  have Rd : Room (A.deeper (envOfC name scope L a code)) n := R.deeper
  have hvl : vs.length = xs.length := by rw [r.len, hlen]
  have hz : (xs.zip vs).map (·.1) = xs := by rw [List.map_fst_zip (by (exact zq446 hvl))]
  have kd : ∀ x k, scope.names.lookup x = some k ↔ (envOfC name scope L a code).kindOf x = some k := fun x k => Iff.rfl
  refine PySem.wpAny_call ?_
  refine call_cells_ret (by have := R.2.1; (exact zq512 this)) (base _ _ ho) hdat (G.lim.keeps base) (hcd.keeps base) (ok.bind pm code doc vs hvl) (fun x hx => ?_) (fun h₁ tk Fh Ch => ?_) ok.co ok.gen ok.kind
  · have hx' : x.1 ∈ xs := by rw [← hz]; exact List.mem_map.mpr ⟨x, hx, rfl⟩
    rcases ok.ps x.1 hx' with q | q
    · exact .inl q
    · exact .inr ⟨q, cellsFrom_acc _ _ _ _ (.inr (mem_of_lk q))⟩
  · rw [hL] at Fh Ch ⊢
    have foge : ∀ b, Fo (envOfC name scope L a code) b → L ≤ b := fun b hb => hb.elim (fun q => by rw [show b = L from q]; exact Nat.le_refl _) fun ⟨m, q⟩ => Nat.le_of_lt (Ch.above m b q)
    have foN : ∀ b, Fo (envOfC name scope L a code) b → s.heap.get? b = none := fun b fo => hfr b (foge b fo)
    have fol : ∀ b, Fo (envOfC name scope L a code) b → ∃ o, h₁.get? b = some o := fun b fo => by
      rcases fo with q | ⟨m, q⟩
      · rw [show b = L from q]; obtain ⟨o, _, _, e, _⟩ := Fh.ns; exact ⟨o, e⟩
      · obtain ⟨o, e, _⟩ := Ch.cell m b (lookup_of_memA (cellsFrom_nodup scope.names (L + 1) [] ok.nodup (by simp) (by simp)) q); exact ⟨o, e⟩
    have cx : CxOk { prog := prog, w := w, g₀ := g₀, mg := mg, d := d, A := A.deeper (envOfC name scope L a code), env := envOfC name scope L a code, X := fun b => X b ∨ Fo (envOfC name scope L a code) b } := by
      refine ⟨fun b fo => .inr fo, Ch.apart, fun m b hb => Nat.ne_of_gt (Ch.above m b hb), fun b fo => ?_, fun b fo q => ?_⟩
      · cases e : g₀.get? b with
        | none => rfl
        | some o => exact noS (foN b fo) (base b o e)
      · obtain ⟨_, f, ⟨o, es, ep, ho, _⟩, _⟩ := (dr b q).1
        exact noS (foN b fo) ho
    have rd : ∀ x k t, AtS scope.names τ x k (.val t) → ∃ v, Reads (envOfC name scope L a code) h₁ x v k ∧ Rep X s.heap t v := fun x k t at' => by
      rcases ini.at at' with q | ⟨t', q, hlk, hk⟩
      · cases q
      · cases q
        obtain ⟨v, hv, rv⟩ := zip_lookup r hlk
        have hkk : scope.names.lookup x = some k := lookup_of_mem' ok.nodup at'.mem
        refine ⟨v, ?_, rv⟩
        rcases hk with rfl | rfl
        · exact ⟨_, Fh.ns, bindL_at _ _ _ x v (by rw [hz]; exact ok.nd) hv hkk⟩
        · have hs := cellsFrom_acc scope.names (L + 1) [] x (.inr at'.mem)
          obtain ⟨cc, hcc⟩ := Option.isSome_iff_exists.mp hs
          refine ⟨cc, hcc, ?_⟩
          have := Ch.cell x cc hcc
          rw [bindC_at _ _ _ x v (by rw [hz]; exact ok.nd) hv (by rw [(kd x .cell).mp hkk]; decide)] at this
          exact this
    have S : SSt { prog := prog, w := w, g₀ := g₀, mg := mg, d := d, A := A.deeper (envOfC name scope L a code), env := envOfC name scope L a code, X := fun b => X b ∨ Fo (envOfC name scope L a code) b } s.heap (fun b => d = some b) [] scope.names τ D h₁ :=
      { base := { base := fun b o e => Fh.keep b o (base b o e)
                  vars := fun x k t at' => by
                    obtain ⟨v, h1, h2⟩ := rd x k t (AtS.of_base at')
                    exact ⟨v, h1, Rep.keep (fun b o hx e => ⟨fun q => (by
                      rcases q with (q | q) | q
                      · exact hx q
                      · exact noS (foN b q) e
                      · cases q), Fh.keep b o e⟩) _ _ h2⟩
                  dr := fun b q => ⟨(dr b q).1.keep fun o e => Fh.keep b o e, .inl (.inl (dr b q).2.1), (dr b q).2.2⟩
                  cx := ⟨fun b fo => .inl (.inr fo), cx.apart, cx.ne, cx.new, cx.dne⟩
                  live := fun b hb => by
                    rcases hb with (q | q) | q
                    · obtain ⟨o, e⟩ := live b q; exact ⟨o, Fh.keep b o e⟩
                    · exact fol b q
                    · cases q
                  ok := ⟨ok.kind, rfl, rfl, fun x k hx => lookup_of_mem' ok.nodup hx⟩
                  gl := G
                  room := Rd.le (Nat.zero_le _) }
        own := fun x k l at' => by
          rcases ini.at at' with q | ⟨t', q, _⟩ <;> cases q
        apart := List.Pairwise.nil
        fresh := fun p hp => nomatch hp
        fr := ⟨ok.nodup, ⟨_, Fh.ns⟩, fun x hx => by
          have hs := cellsFrom_acc scope.names (L + 1) [] x (.inr hx)
          obtain ⟨cc, hcc⟩ := Option.isSome_iff_exists.mp hs
          exact ⟨cc, _, hcc, Ch.cell x cc hcc⟩⟩
        kp := fun b o _ e => Fh.keep b o e
        cx := cx
        dX := fun b q => ⟨.inl (dr b q).2.1, q⟩
        fo := fun b fo => .inr (foN b fo)
        lv := fun b ⟨o, e⟩ => ⟨o, Fh.keep b o e⟩ }
    exact hb h₁ tk _ (fun b => .inl) S

theorem vsS {n : Nat} {vs : List Value} (h : vs.length = n + 1) : ∃ a r, vs = a :: r ∧ r.length = n := by
  obtain ⟨a, r, rfl⟩ := List.exists_cons_of_length_eq_add_one h
  exact ⟨a, r, rfl, Nat.succ.inj h⟩
theorem vs1 {P : List Value → Prop} {vs : List Value} (h : vs.length = 1) (k : ∀ a, P [a]) : P vs := by
  obtain ⟨a, r, rfl, h2⟩ := vsS h; rw [List.length_eq_zero_iff.mp h2]; exact k a
theorem vs2 {P : List Value → Prop} {vs : List Value} (h : vs.length = 2) (k : ∀ a b, P [a, b]) : P vs := by
  obtain ⟨a, r, rfl, h2⟩ := vsS h; exact vs1 (P := fun r => P (a :: r)) h2 (k a)
theorem vs3 {P : List Value → Prop} {vs : List Value} (h : vs.length = 3) (k : ∀ a b c, P [a, b, c]) : P vs := by
  obtain ⟨a, r, rfl, h2⟩ := vsS h; exact vs2 (P := fun r => P (a :: r)) h2 (k a)
/-- what a def's body shows -/
theorem fs_of {prog : Program} {w : World} {g₀ : Heap} {mg : Str → Option Value} (d : Option Addr) {name : Str} {params : Arguments} {body : List Stmt} {scope : Scope} {xs : List Str} {n : Nat} {φ : List PV → Int × Int → (PV → Int × Int → Prop) → Prop}
    (F : DefAt g₀ mg name params body scope) (ok : FnOk name params body scope xs)
    (H : ∀ (A : Around) (env : Env) (X : Addr → Prop) (ts : List PV) (D : Int × Int) (Post : PV → Int × Int → Prop), Room A n → φ ts D Post →
      ts.length = xs.length ∧ ∃ τ, Ini xs ts scope.names τ ∧ HSs { prog := prog, w := w, g₀ := g₀, mg := mg, d := d, A := A, env := env, X := X } scope.names τ D body (fun _ D' => Post .none D') Post) :
    FS prog w g₀ mg d name (n + 1) φ := by
  obtain ⟨a, fd, o, hm, ho, hdat, go⟩ := call_raw (prog := prog) (w := w) (n := n) d F ok
  refine ⟨a, fd, o, hm, ho, hdat, fun A X D s vs ts Post Q E R G base dr live r hφ K => go A X D s vs ts Q E R G base dr live r fun env X' Rd => ?_⟩
  obtain ⟨hlen, τ, ini, hb⟩ := H (A.deeper env) env X' ts D Post Rd hφ
  refine ⟨hlen, τ, ini, fun h₁ tk E' hX S => hb s.heap (fun b => d = some b) [] { s with heap := h₁, toks := tk } _ E' S (fun τ' D' ow' h' tk' p S' => ?_) fun t D' v h' tk' p kk drr rv => ?_⟩
  · exact K .none D' .none h' tk' p (fun b q => (S'.base.dr b q).1) (fun b o hq e => S'.kp b o hq e) rfl
  · exact K t D' v h' tk' p drr (fun b o hq e => kk b o hq e) (Rep.keep (fun b o hx e => ⟨fun q => hx (hX b q), e⟩) _ _ rv)
end Mine
namespace Mine
section
variable {c : Cx} {ns : Names} {τ : STs} {D : Int × Int} {e : Expr} {N : SN} {R : SR} {σ : Vals} {Post : PV → Int × Int → Prop}

inductive T2P (ns : Names) (τ : STs) (x y : Str) (N : SN) (t : PV) (D : Int × Int) : Prop
  | mk (a b : PV) (τ' : STs) (e : t = .tup [a, b]) (h1 : SetL ns τ [(x, a), (y, b)] τ') (h2 : SetL ns τ [(y, b), (x, a)] τ') (p : N τ' D) : T2P ns τ x y N t D
inductive T3P (ns : Names) (τ : STs) (x y z : Str) (N : SN) (t : PV) (D : Int × Int) : Prop
  | mk (a b d : PV) (τ' : STs) (e : t = .tup [a, b, d]) (h1 : SetL ns τ [(x, a), (y, b), (z, d)] τ') (h2 : SetL ns τ [(z, d), (y, b), (x, a)] τ') (p : N τ' D) : T3P ns τ x y z N t D
inductive T4P (ns : Names) (τ : STs) (x y z w : Str) (N : SN) (t : PV) (D : Int × Int) : Prop
  | mk (a b d f : PV) (τ' : STs) (e : t = .tup [a, b, d, f]) (h1 : SetL ns τ [(x, a), (y, b), (z, d), (w, f)] τ') (h2 : SetL ns τ [(w, f), (z, d), (y, b), (x, a)] τ') (p : N τ' D) : T4P ns τ x y z w N t D
theorem hs_tup2 {elts : List Expr} {x y : Str} {k : Nat} {tp pos : Pos} (nm : Nms elts [x, y]) (sw : SwOk elts [x, y] k tp e)
    (H : HA c ns τ D e (T2P ns τ x y N))
    (hs : ∀ env, swapsWithSole [.Tuple elts k tp] e pos.line env = pure false := by intro _; rfl) : HS c ns τ D (.Assign [.Tuple elts k tp] e pos) N R :=
  hs_tuple nm sw (H.mono fun t D' ⟨a, b, τ', h1, h2, h3, h4⟩ => ⟨[a, b], τ', h1, rfl, h2, h3, h4⟩) hs
theorem hs_tup3 {elts : List Expr} {x y z : Str} {k : Nat} {tp pos : Pos} (nm : Nms elts [x, y, z]) (sw : SwOk elts [x, y, z] k tp e)
    (H : HA c ns τ D e (T3P ns τ x y z N))
    (hs : ∀ env, swapsWithSole [.Tuple elts k tp] e pos.line env = pure false := by intro _; rfl) : HS c ns τ D (.Assign [.Tuple elts k tp] e pos) N R :=
  hs_tuple nm sw (H.mono fun t D' ⟨a, b, d, τ', h1, h2, h3, h4⟩ => ⟨[a, b, d], τ', h1, rfl, h2, h3, h4⟩) hs
theorem hs_tup4 {elts : List Expr} {x y z w : Str} {k : Nat} {tp pos : Pos} (nm : Nms elts [x, y, z, w]) (sw : SwOk elts [x, y, z, w] k tp e)
    (H : HA c ns τ D e (T4P ns τ x y z w N))
    (hs : ∀ env, swapsWithSole [.Tuple elts k tp] e pos.line env = pure false := by intro _; rfl) : HS c ns τ D (.Assign [.Tuple elts k tp] e pos) N R :=
  hs_tuple nm sw (H.mono fun t D' ⟨a, b, d, f, τ', h1, h2, h3, h4⟩ => ⟨[a, b, d, f], τ', h1, rfl, h2, h3, h4⟩) hs
/-- a value that is no tuple in the text -/
theorem swok_other {elts : List Expr} {xs : List Str} {k : Nat} {tp : Pos} (h : ∀ env, swappedStores [.Tuple elts k tp] e env = pure none := by intro _; rfl) : SwOk elts xs k tp e := fun env _ => .inl (h env)
theorem sl64 {n : Nat} (h : n ≤ 65536) : n ≤ sizeLine := by rw [sizeLine_eq]; (exact zq317 h)
theorem he_tup {es : List Expr} {k : Nat} {pos : Pos} (H : HLs c ns σ D es fun ts D' => ts.length ≤ 64 ∧ Post (.tup ts) D') : HE c ns σ D (.Tuple es k pos) Post :=
  he_tuple fun s pos Q E S K => H s pos Q E S fun ts D' vs h' tk p => K ts D' vs h' tk ⟨sl64 (by omega), p.2⟩
theorem hn_lst {es : List Expr} {pos : Pos} (H : HLs c ns σ D es fun ts D' => ts.length ≤ 64 ∧ Post (.list ts) D') : HN c ns σ D (.List es pos) Post :=
  hn_list fun s pos Q E S K => H s pos Q E S fun ts D' vs h' tk p => K ts D' vs h' tk ⟨sl64 (by omega), p.2⟩
theorem hn_upto {b hi : Expr} {p pos : Pos} {n : Nat} {ops : Value → Value → List Value}
    (H : HE c ns σ D b fun a D₁ => ∃ l, a = .list l ∧ l.length ≤ 65536 ∧ HE c ns σ D₁ hi (fun t D' => t = .int (n : Int) ∧ D' = D₁) ∧ Post (.list (l.take n)) D₁)
    (hs : ∀ o i, subscripted (.Slice none (some hi) none p) false o i = operate (ops o i) (getItem o i)) : HN c ns σ D (.Subscript b (.Slice none (some hi) none p) pos) Post :=
  hn_slice (i := none) (j := some (n : Int)) (k := none) (L' := fun l => l.take n) (H.mono fun a D₁ ⟨l, h1, h2, h3, h4⟩ => ⟨l, h1, sl64 h2, .none, .some h3, .none, h4⟩) (by decide)
    (fun X h l vs r => ⟨vs.take n, by rw [slicePick_upto'], r.take n⟩) hs
theorem hn_from {b lo : Expr} {p pos : Pos} {n : Nat} {ops : Value → Value → List Value}
    (H : HE c ns σ D b fun a D₁ => ∃ l, a = .list l ∧ l.length ≤ 65536 ∧ HE c ns σ D₁ lo (fun t D' => t = .int (n : Int) ∧ D' = D₁) ∧ Post (.list (l.drop n)) D₁)
    (hs : ∀ o i, subscripted (.Slice (some lo) none none p) false o i = operate (ops o i) (getItem o i)) : HN c ns σ D (.Subscript b (.Slice (some lo) none none p) pos) Post :=
  hn_slice (i := some (n : Int)) (j := none) (k := none) (L' := fun l => l.drop n) (H.mono fun a D₁ ⟨l, h1, h2, h3, h4⟩ => ⟨l, h1, sl64 h2, .some h3, .none, .none, h4⟩) (by decide)
    (fun X h l vs r => ⟨vs.drop n, by rw [slicePick_from'], r.drop n⟩) hs
theorem hn_rev {b st : Expr} {p pos : Pos} {ops : Value → Value → List Value}
    (H : HE c ns σ D b fun a D₁ => ∃ l, a = .list l ∧ l.length ≤ 65536 ∧ HE c ns σ D₁ st (fun t D' => t = .int (-1) ∧ D' = D₁) ∧ Post (.list l.reverse) D₁)
    (hs : ∀ o i, subscripted (.Slice none none (some st) p) false o i = operate (ops o i) (getItem o i)) : HN c ns σ D (.Subscript b (.Slice none none (some st) p) pos) Post :=
  hn_slice (i := none) (j := none) (k := some (-1)) (L' := fun l => l.reverse) (H.mono fun a D₁ ⟨l, h1, h2, h3, h4⟩ => ⟨l, h1, sl64 h2, .none, .none, .some h3, h4⟩) (by decide)
    (fun X h l vs r => ⟨vs.reverse, by rw [PySem.W.krv_pick], r.reverse⟩) hs
theorem ite_t {P : Prop} [Decidable P] {A B : Prop} (h : P) (a : A) : if decide P = true then A else B := by rw [decide_eq_true h, if_pos rfl]; exact a
theorem ite_f {P : Prop} [Decidable P] {A B : Prop} (h : ¬ P) (b : B) : if decide P = true then A else B := by rw [decide_eq_false h, if_neg (by decide)]; exact b
theorem ite_nt {P : Prop} [Decidable P] {A B : Prop} (h : ¬ P) (a : A) : if (!decide P) = true then A else B := by rw [decide_eq_false h]; exact a
theorem ite_nf {P : Prop} [Decidable P] {A B : Prop} (h : P) (b : B) : if (!decide P) = true then A else B := by rw [decide_eq_true h]; exact b
theorem ite_tt {A B : Prop} (a : A) : if true = true then A else B := a
theorem ite_ff {A B : Prop} (b : B) : if false = true then A else B := b
theorem le64 {n : Nat} (h : Nat.ble n 64 = true) : n ≤ 64 := Nat.le_of_ble_eq_true h
theorem len1 {n : Nat} (h : n = 1) : n = 1 := h
end
end Mine
namespace Mine

/-- sizes -/
noncomputable def Sz (k : Nat) (x : Int) : Prop := x.natAbs < 2 ^ k
noncomputable def SzL (k : Nat) (l : List Int) : Prop := ∀ x ∈ l, Sz k x
theorem Sz.mono {j k : Nat} {x : Int} (h : Sz j x) (hk : j ≤ k) : Sz k x := Nat.lt_of_lt_of_le h (Nat.pow_le_pow_right (by decide) hk)
theorem Sz.zero {k : Nat} : Sz k 0 := Nat.pow_pos (by decide)
theorem Sz.mul {a b : Nat} {x y : Int} (h : Sz a x) (h' : Sz b y) : Sz (a + b) (x * y) := by
  unfold Sz at *
  rw [Int.natAbs_mul, Nat.pow_add]
  exact Nat.mul_lt_mul'' h h'
theorem Sz.add {a : Nat} {x y : Int} (h : Sz a x) (h' : Sz a y) : Sz (a + 1) (x + y) := by
  unfold Sz at *
  have := Int.natAbs_add_le x y
  rw [Nat.pow_succ]; (exact zq190 h h' this)
theorem Sz.neg {a : Nat} {x : Int} (h : Sz a x) : Sz a (-x) := by unfold Sz at *; rw [Int.natAbs_neg]; exact h
theorem Sz.sub {a : Nat} {x y : Int} (h : Sz a x) (h' : Sz a y) : Sz (a + 1) (x - y) := by rw [Int.sub_eq_add_neg]; exact h.add h'.neg
theorem Sz.pow {a : Nat} {x : Int} (h : Sz a x) : ∀ n, Sz (a * n + 1) (x ^ n)
  | 0 => by unfold Sz; simp
  | n + 1 => by
    have := (Sz.pow h n).mul h
    rw [Int.pow_succ]
    exact this.mono (by rw [Nat.mul_succ]; (exact zq342))
theorem Sz.of_mul {k : Nat} {b z : Int} (hb : b ≠ 0) (h : Sz k (b * z)) : Sz k z := by
  unfold Sz at *
  rw [Int.natAbs_mul] at h
  have : 0 < b.natAbs := Int.natAbs_pos.mpr hb
  exact Nat.lt_of_le_of_lt (Nat.le_mul_of_pos_left _ this) h
theorem Sz.bits {k : Nat} {x : Int} (h : Sz k x) : Builtin.Int.intBits x ≤ k := by
  unfold Builtin.Int.intBits
  split
  · (exact zq210)
  · rename_i h0
    have h0 : x ≠ 0 := by simpa using h0
    have : x.natAbs.log2 < k := (Nat.log2_lt (by (exact zq172 h0))).mpr h
    (exact zq393 this)
theorem mulOk {a b : Nat} {x y : Int} (h : Sz a x) (h' : Sz b y) (ha : a ≤ 1000000) (hb : b ≤ 1000000) : IntMulOk x y :=
  IntMulOk.of_bits (Nat.le_trans h.bits (by omega)) (Nat.le_trans h'.bits (by omega))
theorem noPy {k : Nat} {x y : Int} (h : Sz k y) (hk : k ≤ 9000) : Builtin.divisionGoesByPylong x y = false := by
  by_cases h0 : y.natAbs = 0
  · exact PyProof.noPylong_of_log2 (by rw [h0]; decide +kernel)
  · exact PyProof.noPylong_of_log2 (by have := (Nat.log2_lt h0).mpr h; (exact zq460 hk this))
theorem SzL.getD {k : Nat} {l : List Int} (h : SzL k l) (i : Nat) : Sz k (l.getD i 0) := by
  rw [List.getD_eq_getElem?_getD]
  cases q : l[i]? with
  | none => exact Sz.zero
  | some x => exact h x (List.mem_of_getElem? q)
theorem SzL.of_cf {k : Nat} {l : List Int} (h : ∀ i, Sz k (Law.cf l i)) : SzL k l := fun x hx => by
  obtain ⟨i, hi, rfl⟩ := List.getElem_of_mem hx
  have := h i
  simpa [Law.cf, hi] using this
theorem SzL.cf {k : Nat} {l : List Int} (h : SzL k l) (i : Nat) : Sz k (Law.cf l i) := h.getD i
theorem SzL.mono {j k : Nat} {l : List Int} (h : SzL j l) (hk : j ≤ k) : SzL k l := fun x hx => (h x hx).mono hk

section
variable {c : Cx} {ns ns' : Names} {σ σ' : Vals} {D : Int × Int} {elt tgt : Expr} {Post : PV → Int × Int → Prop}
theorem comp_map {items : List PV} (g : Nat → PV) (hlen : items.length ≤ 65536)
    (body : ∀ i t, items[i]? = some t → ∃ σ'', SetTgt ns' LO σ' tgt t σ'' ∧ ∀ env X, HE (c.inner env X) ns' σ'' D elt fun v D' => v = g i ∧ D' = D)
    (post : Post (.list ((List.range items.length).map g)) D) : CompOk c ns' σ' tgt [] elt Post items D := by
  refine ⟨sl64 hlen, fun i D' ys => D' = D ∧ ys = (List.range i).map g, ⟨rfl, rfl⟩, ?_, ?_⟩
  · rintro i t D' ys ht ⟨rfl, rfl⟩
    obtain ⟨σ'', hs, hb⟩ := body i t ht
    refine ⟨σ'', hs, fun env X => ?_⟩
    show HE _ _ _ _ _ _
    refine (hb env X).mono ?_
    rintro v D' ⟨rfl, rfl⟩
    refine ⟨Nat.le_refl _, rfl, ?_⟩
    rw [List.range_succ, List.map_append]; rfl
  · rintro D' ys ⟨rfl, rfl⟩; exact post
end
theorem cf_at {l : List Int} {i : Nat} (h : i < l.length) : l[i]? = some (l.getD i 0) := by
  rw [List.getD_eq_getElem?_getD, List.getElem?_eq_getElem h]; rfl
theorem idx_cf {l : List Int} {i : Int} {n : Nat} (hi : i = n) (h : n < l.length) : idx (il l) i = some (.int (l.getD n 0)) := by
  subst hi
  unfold idx
  rw [if_pos (by (exact zq5)), List.getElem?_map, show ((n : Int)).toNat = n by simp, cf_at h]; rfl
/-- a[at] if at < len(a) else 0 -/
theorem he_pick {c : Cx} {ns : Names} {σ : Vals} {D : Int × Int} {e sub z : Expr} {pos : Pos} {Post : PV → Int × Int → Prop} {l : List Int} {i : Nat}
    (ht : HT c ns σ D e fun b D' => b = decide ((i : Int) < (l.length : Int)) ∧ D' = D)
    (hs : i < l.length → HE c ns σ D sub fun v D' => v = .int (l.getD i 0) ∧ D' = D)
    (hz : HE c ns σ D z fun v D' => v = .int 0 ∧ D' = D) (p : Post (.int (l.getD i 0)) D) : HE c ns σ D (.IfExp e sub z pos) Post := by
  refine he_ifexp (ht.mono ?_)
  rintro b D' ⟨rfl, rfl⟩
  by_cases h : i < l.length
  · refine ite_t (by (exact zq27 h)) ((hs h).mono ?_)
    rintro v D' ⟨rfl, rfl⟩; exact p
  · refine ite_f (by (exact zq137 h)) (hz.mono ?_)
    rintro v D' ⟨rfl, rfl⟩
    rw [List.getD_eq_getElem?_getD, List.getElem?_eq_none (by (exact zq2 h))] at p; exact p
theorem upto_len (a b : Int) : (il (upto a b)).length = (b - a).toNat := by simp [upto]
theorem upto_at {a b : Int} {i : Nat} {t : PV} (h : (il (upto a b))[i]? = some t) : i < (b - a).toNat ∧ t = .int (a + i) := by
  have hi := (List.getElem?_eq_some_iff.mp h).1
  rw [upto_len] at hi
  refine ⟨hi, ?_⟩
  simp only [il, upto, List.getElem?_map, List.getElem?_range hi] at h
  exact (Option.some.inj h).symm
theorem range_map_il (f : Int → Int) (l : List Int) : (List.range l.length).map (fun i => PV.int (f (l.getD i 0))) = il (l.map f) := by
  apply List.ext_getElem (by simp)
  intro i h1 h2
  have : i < l.length := by simpa using h1
  simp [this]
end Mine
namespace Mine
section
variable {c : Cx} {ns : Names} {τ : STs} {D : Int × Int} {e : Expr} {N : SN} {R : SR} {σ : Vals} {Post : PV → Int × Int → Prop}

theorem ne_GM : ¬ Gr = Mx := by decide
theorem ne_MG : ¬ Mx = Gr := by decide
/-- a draw is read -/
theorem he_draw {x : Str} {k : NameKind} {a : Addr} {px cp pos : Pos} {kk : Nat} {key : Str} {v : Int} (at' : At ns σ x k (.dd a)) (hd : c.d = some a) (hk : (key = Gr ∧ v = D.1) ∨ (key = Mx ∧ v = D.2)) (p : Post (.int v) D)
    (h1 : (x == ("__debug__" : Str)) = false := by rfl) (h2 : (x == ("__classdict__" : Str)) = false := by rfl) : HE c ns σ D (.Subscript (.Name x px) (.Constant (.str key) kk cp) pos) Post := by
  intro s Q E S K
  refine Subscript_ (he_name (Post := fun t D' => t = .dd a ∧ D' = D) at' ⟨rfl, rfl⟩ h1 h2 s _ E S fun t D' v₁ h' tk pp S' k₁ r₁ => ?_)
  obtain ⟨rfl, rfl⟩ := pp
  have r₁ : v₁ = .ref a := r₁
  subst r₁
  refine Constant_str ?_
  obtain ⟨t, u, dct, _⟩ := (S'.dr a hd).1
  have fin : ∀ tt, Q (.int v tt) { s with heap := h', toks := tk + 1 + 1 } := fun tt => K (.int v) D' _ h' _ p S' k₁ rep_int
  refine subTail (ops := [.ref a, .str key tk]) (s := { s with heap := h', toks := tk + 1 }) dct.mapOf.typeIs slot_dict_getitem.lookup ?_ rfl
  rcases hk with ⟨rfl, rfl⟩ | ⟨rfl, rfl⟩
  · exact wpAny_getItem_of (v := .int D'.1 t) (strKind_is c.prog c.w _ _) dct.mapOf (by simp [valueAt]) (fin t)
  · exact wpAny_getItem_of (v := .int D'.2 u) (strKind_is c.prog c.w _ _) dct.mapOf (by simp [valueAt, ne_GM]) (fin u)

/-- a draw is stored -/
theorem draw_store {hb : Heap} {W : Addr → Prop} {ow : List (Str × Addr)} {a : Addr} {key : Str} {v : Int} {t t' : Tok} {D' : Int × Int} {s : Shared} {Q : Unit → Shared → Prop} {E : Value → Shared → Prop} (S : SSt c hb W ow ns τ D s.heap) (hd : c.d = some a)
    (hk : (key = Gr ∧ D' = (v, D.2)) ∨ (key = Mx ∧ D' = (D.1, v)))
    (K : ∀ h', SSt c hb W ow ns τ D' h' → Kp c.d s.heap h' → Q () { s with heap := h', toks := s.toks + 1 }) : wpAny (model c.prog c.w) c.A (setItem (.ref a) (.str key t) (.int v t')) Q E s := by
  obtain ⟨t1, u, dct, _⟩ := (S.base.dr a hd).1
  refine wpAny_setItem_pairs (strKind_is c.prog c.w _ _) dct (fun h' d' sb => ?_) (by simp [sizeLine_eq])
  have kp : Kp c.d s.heap h' := fun b o hq e => sb.extBut b o (fun q => hq (by rw [hd, q])) e
  refine K h' (S.next kp fun b hb => ?_) kp
  have : b = a := by rw [hd] at hb; exact (Option.some.inj hb).symm
  subst this
  rcases hk with ⟨rfl, rfl⟩ | ⟨rfl, rfl⟩
  · exact ⟨t', u, by simpa [stored, ne_GM, ne_MG] using d', trivial⟩
  · exact ⟨t1, t', by simpa [stored, ne_GM, ne_MG] using d', trivial⟩

theorem hs_draw {x : Str} {k : NameKind} {a : Addr} {px cp spos pos : Pos} {kk : Nat} {key : Str} (at' : AtS ns τ x k (.val (.dd a))) (hd : c.d = some a)
    (H : HA c ns τ D e fun t D₁ => ∃ v D', t = .int v ∧ ((key = Gr ∧ D' = (v, D₁.2)) ∨ (key = Mx ∧ D' = (D₁.1, v))) ∧ N τ D')
    (hs : ∀ env, swapsWith e (some (.Subscript (.Name x px) (.Constant (.str key) kk cp) spos)) pos.line env = pure false := by intro _; rfl)
    (h1 : (x == ("__debug__" : Str)) = false := by rfl) (h2 : (x == ("__classdict__" : Str)) = false := by rfl) :
    HS c ns τ D (.Assign [.Subscript (.Name x px) (.Constant (.str key) kk cp) spos] e pos) N R := fun hb W ow s Q E S KN KR => by
  refine wpAny_Assign_Subscript (H hb W ow s _ E S fun t D₁ v h' tk p S' kk' r => ?_) (hs _)
  obtain ⟨i, D', rfl, hk, p⟩ := p
  obtain ⟨t', rfl⟩ := r
  refine he_name (c := c.plus (yof ow)) (Post := fun t D' => t = .dd a ∧ D' = D₁) at'.base ⟨rfl, rfl⟩ h1 h2 { s with heap := h', toks := tk } _ E S'.base fun t D₂ v₁ h₁ tk₁ pp S₁ k₁ r₁ => ?_
  obtain ⟨rfl, rfl⟩ := pp
  have r₁ : v₁ = .ref a := r₁
  subst r₁
  have S₂ : SSt c hb W ow ns τ D₂ h₁ := S'.next k₁ fun b q => (S₁.dr b q).1
  refine Constant_str ?_
  exact draw_store (s := { s with heap := h₁, toks := tk₁ + 1 }) S₂ hd hk fun h₃ S₃ _ => KN τ D' ow h₃ _ p S₃

theorem sw_sub {x : Str} {p : Pos} {o i : Expr} {sp : Pos} {k : Nat} {tp : Pos} {e : Expr} {env : Env} : swappedStores [.Tuple [.Name x p, .Subscript o i sp] k tp] e env = pure none := by
  unfold swappedStores
  split
  · rename_i ts vs heq
    have : ts = [.Name x p, .Subscript o i sp] := by
      revert heq
      split <;> intro h
      · rename_i h1 _; cases h; rename_i h2; cases h2; rfl
      · rename_i h2; cases h2
      · cases h
    subst this
    have key : ∀ (f : Expr → Option Str), f (.Subscript o i sp) = none → (List.filterMap f [.Name x p, .Subscript o i sp]).length ≤ 1 := fun f hf => by
      rw [List.filterMap_cons, List.filterMap_cons, hf]
      cases f (.Name x p) <;> simp
    dsimp only
    split
    · rfl
    · split
      · rfl
      · rw [if_pos]
        refine Bool.or_eq_true_iff.mpr (.inl ?_)
        have := key (fun y => match y with
          | Expr.Name id pos => if (env.kindOf id == some NameKind.local && pos.line == (Option.map (fun z : Expr => z.pos.line) [Expr.Name x p, Expr.Subscript o i sp].head?).getD 0) = true then some id else none
          | x => none) rfl
        simp only [bne_iff_ne, ne_eq]
        intro h
        exact absurd (show (2 : Nat) ≤ 1 from Nat.le_trans (Nat.le_of_eq h.symm) this) (by decide)
  · rfl

/-- f, draws[key] = (u, v) -/
theorem hs_found_draw {x y : Str} {k : NameKind} {a : Addr} {px py cp spos tp pos : Pos} {kk n : Nat} {key : Str} (at' : AtS ns τ x k (.val (.dd a))) (hd : c.d = some a) (hxy : x ≠ y)
    (H : HA c ns τ D e fun t D₁ => ∃ u v D' k' τ', t = .tup [.int u, .int v] ∧ ((key = Gr ∧ D' = (v, D₁.2)) ∨ (key = Mx ∧ D' = (D₁.1, v))) ∧ SetS ns τ y k' (.val (.int u)) τ' ∧ LC k' ∧ AtS ns τ' x k (.val (.dd a)) ∧ N τ' D')
    (hs : ∀ env, swapsWithSole [.Tuple [.Name y py, .Subscript (.Name x px) (.Constant (.str key) kk cp) spos] n tp] e pos.line env = pure false := by intro _; rfl)
    (h1 : (x == ("__debug__" : Str)) = false := by rfl) (h2 : (x == ("__classdict__" : Str)) = false := by rfl) :
    HS c ns τ D (.Assign [.Tuple [.Name y py, .Subscript (.Name x px) (.Constant (.str key) kk cp) spos] n tp] e pos) N R := fun hb W ow s Q E S KN KR => by
  refine Assign_Tuple (H hb W ow s _ E S fun t D₁ v h' tk p S' kk' r => ?_) (hs _) sw_sub
  obtain ⟨i, j, D', k', τ', rfl, hk, sa, hk', at₂, p⟩ := p
  obtain ⟨b, vs, rfl, hx, ht, rr⟩ := r
  obtain ⟨v₁, r', rfl, ⟨t₁, rfl⟩, v₂, r'', rfl, ⟨t₂, rfl⟩, rfl⟩ := rr
  refine wpAny_assign_Tuple S.base.room.1 ht rfl rfl fun h₁ he => ?_
  have kp₁ : ∀ b o, h'.get? b = some o → h₁.get? b = some o := fun b o e => he b o (Nat.ne_of_lt (Heap.lt_size e)) e
  show wpAny _ _ (do holding [_] (assign (.Name y py) c.env (.int i t₁)); holding [] (assign (.Subscript (.Name x px) (.Constant (.str key) kk cp) spos) c.env (.int j t₂)); pure ()) _ _ _
  refine wpAny_bind (wpAny_holding (wpAny_assign_Name (sst_store (s := { s with heap := h₁, toks := tk }) sa hk' (S'.ext kp₁) rep_int fun h₂ tk₂ S₂ k₂ => ?_)))
  refine wpAny_bind (wpAny_holding ?_)
  rw [assign_Subscript]
  refine wpAny_bind (wpAny_holding ?_)
  refine he_name (c := c.plus (yof ow)) (Post := fun t D' => t = .dd a ∧ D' = D₁) at₂.base ⟨rfl, rfl⟩ h1 h2 { s with heap := h₂, toks := tk₂ } _ E S₂.base fun t D₂ v₁ h₃ tk₃ pp S₃ k₃ r₃ => ?_
  obtain ⟨rfl, rfl⟩ := pp
  have r₃ : v₁ = .ref a := r₃
  subst r₃
  have S₄ : SSt c hb W ow ns τ' D₂ h₃ := S₂.next k₃ fun b q => (S₃.dr b q).1
  refine wpAny_bind (wpAny_holding (Constant_str ?_))
  refine wpAny_bind (wpAny_standAt (wpAny_bind (wpAny_holding ?_)))
  refine draw_store (s := { s with heap := h₃, toks := tk₃ + 1 }) S₄ hd hk fun h₅ S₅ _ => ?_
  exact wpAny_release (wpAny_pure (KN τ' D' ow h₅ _ p S₅))
end
end Mine
namespace Mine

/-! lists of lists of ints -/
abbrev ill (ls : List (List Int)) : List PV := ls.map fun r => .list (il r)
noncomputable def dls (ls : List (List Int)) : PyData := .list (ls.map fun r => .list (r.map PyData.int))
theorem reads_il {X : Addr → Prop} {h : Heap} {r : List Int} {v : Value} (rv : Rep X h (.list (il r)) v) : ∃ as, PySem.Reads h v (.list (r.map PyData.int)) as := by
  obtain ⟨a, vs, rfl, _, p, rr⟩ := rv
  exact ⟨_, reads_newData p.isList (PySem.W.ke_carried (intsAre_of rr))⟩
theorem reads_ill {X : Addr → Prop} {h : Heap} : ∀ {ls : List (List Int)} {vs : List Value}, Reps X h (ill ls) vs → ∃ as, PySem.ReadsAll h vs (ls.map fun r => .list (r.map PyData.int)) as
  | [], vs, r => by
    have r : vs = [] := r
    subst r; exact ⟨_, .nil⟩
  | l :: ls, vs, r => by
    obtain ⟨v, r', rfl, h1, h2⟩ := (show ∃ v r', vs = v :: r' ∧ Rep X h (.list (il l)) v ∧ Reps X h (ill ls) r' from r)
    obtain ⟨as, q⟩ := reads_il h1
    obtain ⟨bs, q'⟩ := reads_ill h2
    exact ⟨_, .cons q q'⟩
theorem canLay_ill : ∀ ls : List (List Int), PyData.canLayAll0 (ls.map fun r => .list (r.map PyData.int)) = true
  | [] => rfl
  | _ :: r => by simp [PyData.canLayAll0, PyData.canLay0, PySem.W.ke_canLayAll0, canLay_ill r]
theorem depth_ill : ∀ ls : List (List Int), PyData.depthAll (ls.map fun r => .list (r.map PyData.int)) ≤ 1
  | [] => by simp [PyData.depthAll]
  | l :: r => by
    have := depth_ill r
    simp only [List.map_cons, PyData.depthAll, PyData.depth, PySem.W.ke_depthAll]
    (exact zq297 this)
theorem shaped_ill (ls : List (List Int)) : PySem.SeqAt.shaped (dls ls) = true := by
  have := depth_ill ls
  unfold dls PySem.SeqAt.shaped
  simp only [PyData.canLay0, PyData.depth, canLay_ill, Bool.true_and]
  exact decide_eq_true (by (exact zq298 this))
theorem same_ill : ∀ ls : List (List Int), PySem.Spec.sameAll (ls.map fun r => .list (r.map PyData.int)) (ls.map fun r => .list (r.map PyData.int)) = true
  | [] => rfl
  | l :: r => by
    simp only [List.map_cons, PySem.Spec.sameAll, same_ill r, PySem.W.ke_same]
    simp
theorem co_neLL {c : Cx} {ls : List (List Int)} : CmpOk c .NotEq (.list (ill ls)) (.list (ill ls)) false :=
  ⟨fun {s u v Q E} R ru rv h => by
    obtain ⟨a, vs, e, _, p, r⟩ := ru
    obtain ⟨a', vs', e', _, p', r'⟩ := rv
    subst e; subst e'
    obtain ⟨as, q⟩ := reads_ill r
    obtain ⟨bs, q'⟩ := reads_ill r'
    obtain ⟨o, ho, hc, n, hd⟩ := p.isList
    obtain ⟨o', ho', hc', n', hd'⟩ := p'.isList
    have k1 : PySem.Reads s.heap (.ref a) (dls ls) (a :: as) := reads_list_at ho hc hd (by simpa using q)
    have k2 : PySem.Reads s.heap (.ref a') (dls ls) (a' :: bs) := reads_list_at ho' hc' hd' (by simpa using q')
    have sh : PySem.SeqAt.noMix (dls ls) (dls ls) = true := PySem.SeqAt.noMix_of_shape (.list (.list .int)) rfl _ _ (list_map_has fun _ => list_map_has fun _ => rfl) (list_map_has fun _ => list_map_has fun _ => rfl)
    have fin : Q (.bool (!PySem.Spec.same (dls ls) (dls ls))) s := by
      rw [show PySem.Spec.same (dls ls) (dls ls) = true from same_ill ls]
      exact h
    with_reducible exact ne_dataH_same k1 k2 (shaped_ill ls) (shaped_ill ls) R.u sh fin⟩

section
variable {c : Cx} {hb : Heap} {W : Addr → Prop} {ow : List (Str × Addr)} {ns : Names} {τ τ' : STs} {D : Int × Int} {e : Expr} {N : SN} {R : SR} {σ : Vals}

/-- a new list of lists of ints, that leans on no own list -/
theorem ho_base {x : Str} {P : List PV → Int × Int → Prop} (hf : Base τ σ) (H : ∀ X, HN (c.inX X) ns σ D e fun t D' => ∃ ls : List (List Int), t = .list (ill ls) ∧ P (ill ls) D') : HO c ns τ D x e P := fun hb W ow s Q E S K =>
  H (c.plus (yof ow)).X s Q E (S.base.sub fun x k t a => hf.sub a) fun t D' a h' tk p S' k fr r => by
    obtain ⟨l, rfl, p⟩ := p
    obtain ⟨a', vs, e, hx, pl, rr⟩ := r
    cases e
    refine K _ D' a vs h' tk p (S.reserve k (fun a q => (S'.dr a q).1) fr (let ⟨n, e⟩ := pl; ⟨_, e⟩)) k pl (reps_iff.mpr ⟨rr.len, fun i t v h1 h2 => ?_⟩)
    have r1 := (reps_iff.mp rr).2 i t v h1 h2
    rw [List.getElem?_map, Option.map_eq_some_iff] at h1
    obtain ⟨row, hrow, rfl⟩ := h1
    obtain ⟨b, ws, rfl, hxb, plb, rw'⟩ := r1
    refine rep_list (fun q => ?_) plb (flat.reps flat_il rw')
    rcases q with q | q
    · exact hxb (.inl q)
    rcases List.mem_cons.mp q with q | q
    · have q : b = a := q
      subst q
      obtain ⟨n, e1⟩ := pl
      obtain ⟨n', e2⟩ := plb
      rw [e1] at e2
      have e3 : vs = ws := by
        have := congrArg Obj.data (Option.some.inj e2)
        simp only [Data.seq.injEq] at this
        simpa using congrArg Array.toList this.1
      subst e3
      have : i < row.length := by
        have := rw'.len
        have h3 := (List.getElem?_eq_some_iff.mp h2).1
        simpa [this] using h3
      have := (reps_iff.mp rw').2 i (.int row[i]) _ (by simp [this]) h2
      obtain ⟨tk, e⟩ := this
      cases e
    · exact hxb (.inr q)

/-- x, y = (a new list, an int) -/
theorem hs_tup_own {x y : Str} {px py tp tp' pos cp : Pos} {k k' kk : Nat} {i : Int} (nd : x ≠ y)
    (H : HO c ns τ D x e fun l D' => ∃ k1 k2 τ1 τ2 τ3, SetS ns τ x k1 (.own l) τ1 ∧ LC k1 ∧ SetS ns τ1 y k2 (.val (.int i)) τ2 ∧ LC k2 ∧ SetS ns τ y k2 (.val (.int i)) τ3 ∧ SetS ns τ3 x k1 (.own l) τ2 ∧ N τ2 D')
    (hc : constantsAlone 8 e = false)
    (hp : ∀ env, starEach [e, .Constant (.int i) kk cp] env = (false, eval e env) :: starEach [.Constant (.int i) kk cp] env := by intro _; rfl)
    (hs : ∀ env, swapsWithSole [.Tuple [.Name x px, .Name y py] k tp] (.Tuple [e, .Constant (.int i) kk cp] k' tp') pos.line env = pure false := by intro _; rfl) :
    HS c ns τ D (.Assign [.Tuple [.Name x px, .Name y py] k tp] (.Tuple [e, .Constant (.int i) kk cp] k' tp') pos) N R := fun hb W ow s Q E S KN KR => by
  have sw : SwOk [.Name x px, .Name y py] [x, y] k tp (.Tuple [e, .Constant (.int i) kk cp] k' tp') := swok_lit (.cons (.cons .nil)) (.inr (by simp [hc]))
  have val : ∀ (Q : Value → Shared → Prop), (∀ l D' a vs t b h' tk, (∃ k1 k2 τ1 τ2 τ3, SetS ns τ x k1 (.own l) τ1 ∧ LC k1 ∧ SetS ns τ1 y k2 (.val (.int i)) τ2 ∧ LC k2 ∧ SetS ns τ y k2 (.val (.int i)) τ3 ∧ SetS ns τ3 x k1 (.own l) τ2 ∧ N τ2 D') →
      SSt c hb W ((x, a) :: ow) ns τ D' h' → h'.PlainList a vs.toArray → Reps (c.plus (yof ((x, a) :: ow))).X h' l vs → h'.IsTuple b [.ref a, .int i t].toArray → Q (.ref b) { s with heap := h', toks := tk }) →
      wpAny (model c.prog c.w) c.A (eval (.Tuple [e, .Constant (.int i) kk cp] k' tp') c.env) Q E s := fun Q K => by
    refine Tuple_ ?_
    rw [hp]
    refine spliced_cons (H hb W ow s _ E S fun l D' a vs h' tk p S' kk' pl r => ?_)
    show wpAny _ _ (spliced ((false, eval (.Constant (.int i) kk cp) c.env) :: backTo _ (starEach [] c.env))) _ _ _
    refine spliced_cons (wpAny_Constant_int (spliced_nil ?_))
    refine wpAny_newObj_type ?_ (by show ([Value.ref a, Value.int i tk] : List Value).toArray.size ≤ sizeLine; rw [sizeLine_eq]; simp)
    have kp : ∀ b o, h'.get? b = some o → (h'.push { cls := .type "tuple", data := .seq #[.ref a, .int i tk] }).get? b = some o := fun b o e => Heap.get?_push_of_some _ e
    refine K l D' a vs tk h'.objs.size _ _ p (S'.ext kp) (pl.at fun o e => kp a o e) (Reps.keep (fun b o hx e => ⟨hx, kp b o e⟩) _ _ r) ⟨_, Heap.get?_push_size _ rfl, rfl, 0, rfl⟩
  rcases sw c.env S.base.ok.kind with hw | hw
  · refine Assign_Tuple (val _ fun l D' a vs t b h' tk p S' pl r ht => ?_) (hs _) hw
    obtain ⟨k1, k2, τ1, τ2, τ3, s1, l1, s2, l2, s3, s4, p⟩ := p
    refine wpAny_assign_Tuple S.base.room.1 ht rfl rfl fun h₁ he => ?_
    have kp₁ : ∀ b o, h'.get? b = some o → h₁.get? b = some o := fun b o e => he b o (Nat.ne_of_lt (Heap.lt_size e)) e
    show wpAny _ _ (do holding [_] (assign (.Name x px) c.env (.ref a)); do holding [] (assign (.Name y py) c.env (.int i t)); pure ()) _ _ _
    refine wpAny_bind (wpAny_holding (wpAny_assign_Name (sst_own (s := { s with heap := h₁, toks := tk }) s1 l1 (S'.ext kp₁) List.mem_cons_self (pl.at fun o e => kp₁ a o e) (Reps.keep (fun b o hx e => ⟨hx, kp₁ b o e⟩) _ _ r) fun h₂ tk₂ S₂ k₂ => ?_)))
    refine wpAny_bind (wpAny_holding (wpAny_assign_Name (sst_store (s := { s with heap := h₂, toks := tk₂ }) s2 l2 S₂ rep_int fun h₃ tk₃ S₃ k₃ => ?_)))
    exact wpAny_pure (KN τ2 D' _ h₃ tk₃ p S₃)
  · refine Assign_Tuple_swapped (val _ fun l D' a vs t b h' tk p S' pl r ht => ?_) (hs _) hw
    obtain ⟨k1, k2, τ1, τ2, τ3, s1, l1, s2, l2, s3, s4, p⟩ := p
    rw [show ([x, y] : List Str).length = ([.ref a, .int i t] : List Value).toArray.size from rfl]
    refine unpackItems_tuple S.base.room.1 ht fun h₁ he => ?_
    have kp₁ : ∀ b o, h'.get? b = some o → h₁.get? b = some o := fun b o e => he b o (Nat.ne_of_lt (Heap.lt_size e)) e
    show wpAny _ _ (do holding [_] (bindName c.env y (.int i t)); do holding [] (bindName c.env x (.ref a)); pure ()) _ _ _
    refine wpAny_bind (wpAny_holding (wpAny_bindName (sst_store (s := { s with heap := h₁, toks := tk }) s3 l2 (S'.ext kp₁) rep_int fun h₂ tk₂ S₂ k₂ => ?_)))
    have aN : ¬ Fo c.env a := fun fo => (S'.fresh _ List.mem_cons_self).2.1 (S'.cx.inX a fo)
    refine wpAny_bind (wpAny_holding (wpAny_bindName (sst_own (s := { s with heap := h₂, toks := tk₂ }) s4 l1 S₂ List.mem_cons_self (pl.at fun o e => k₂ a o aN (kp₁ a o e)) (Reps.keep (fun b o hx e => ⟨hx, k₂ b o (fun fo => hx (.inl (S'.cx.inX b fo))) (kp₁ b o e)⟩) _ _ r) fun h₃ tk₃ S₃ k₃ => ?_)))
    exact wpAny_pure (KN τ2 D' _ h₃ tk₃ p S₃)

theorem assign_sub {b i : Expr} {p : Pos} {v : Value} {M : Model} {A : Around} {env : Env} {s : Shared} {Q : Unit → Shared → Prop} {E : Value → Shared → Prop}
    (h : wpAny M A (eval b env) (fun ov s₂ => wpAny M A (eval i env) (fun iv s₃ => wpAny M A (setItem ov iv v) Q E s₃) E s₂) E s) : wpAny M A (assign (.Subscript b i p) env v) Q E s := by
  rw [assign_Subscript]
  refine wpAny_bind (wpAny_holding (wpAny_mono h (fun ov s₂ h₂ => ?_) fun _ _ x => x))
  refine wpAny_bind (wpAny_holding (wpAny_mono h₂ (fun iv s₃ h₃ => ?_) fun _ _ x => x))
  refine wpAny_bind (wpAny_standAt (wpAny_bind (wpAny_holding (wpAny_mono h₃ (fun u s₄ h₄ => ?_) fun _ _ x => x))))
  exact wpAny_release h₄

theorem sw_sub3 {o i : Expr} {sp : Pos} {ts : List Expr} {k : Nat} {tp : Pos} {e : Expr} {env : Env} : swappedStores [.Tuple (.Subscript o i sp :: ts) k tp] e env = pure none := by
  unfold swappedStores
  split
  · rename_i us vs heq
    have : us = .Subscript o i sp :: ts := by
      revert heq
      split <;> intro h
      · rename_i h1 _; cases h; rename_i h2; cases h2; rfl
      · rename_i h2; cases h2
      · cases h
    subst this
    have key : ∀ (f : Expr → Option Str), f (.Subscript o i sp) = none → (List.filterMap f (.Subscript o i sp :: ts)).length ≤ ts.length := fun f hf => by
      rw [List.filterMap_cons, hf]
      exact List.length_filterMap_le _ _
    dsimp only
    split
    · rfl
    · split
      · rfl
      · rw [if_pos]
        refine Bool.or_eq_true_iff.mpr (.inl ?_)
        have := key (fun y => match y with
          | Expr.Name id pos => if (env.kindOf id == some NameKind.local && pos.line == (Option.map (fun z : Expr => z.pos.line) (Expr.Subscript o i sp :: ts).head?).getD 0) = true then some id else none
          | x => none) rfl
        simp only [bne_iff_ne, ne_eq]
        intro h
        exact absurd (show ts.length + 1 ≤ ts.length from Nat.le_trans (Nat.le_of_eq h.symm) this) (by (exact zq233))
  · rfl

/-- x[i], x[j], y = (t, u, n) -/
theorem hs_swap {x y : Str} {px px' p1 p2 py tp pos : Pos} {k : NameKind} {n : Nat} {i j : Expr} {l : List PV} (at' : AtS ns τ x k (.own l)) (hF : Full τ σ)
    (H : HA c ns τ D e fun t D₁ => ∃ (a b : PV) (f : Int), t = .tup [a, b, .int f] ∧ HE c ns σ D₁ i fun u D₂ => ∃ u0 : Nat, u = .int u0 ∧ u0 < l.length ∧ l.length ≤ 65536 ∧ D₂ = D₁ ∧
      ∃ τ1 σ1, SetS ns τ x k (.own (l.set u0 a)) τ1 ∧ AtS ns τ1 x k (.own (l.set u0 a)) ∧ Full τ1 σ1 ∧ HE c ns σ1 D₁ j fun u' D₃ => ∃ u1 : Nat, u' = .int u1 ∧ u1 < l.length ∧ D₃ = D₁ ∧
      ∃ τ2 τ3 k', SetS ns τ1 x k (.own ((l.set u0 a).set u1 b)) τ2 ∧ SetS ns τ2 y k' (.val (.int f)) τ3 ∧ LC k' ∧ N τ3 D₁)
    (hs : ∀ env, swapsWithSole [.Tuple [.Subscript (.Name x px) i p1, .Subscript (.Name x px') j p2, .Name y py] n tp] e pos.line env = pure false := by intro _; rfl)
    (hd : (x == ("__debug__" : Str)) = false := by decide) (hc : (x == ("__classdict__" : Str)) = false := by decide) :
    HS c ns τ D (.Assign [.Tuple [.Subscript (.Name x px) i p1, .Subscript (.Name x px') j p2, .Name y py] n tp] e pos) N R := fun hb W ow s Q E S KN KR => by
  refine Assign_Tuple (H hb W ow s _ E S fun t D₁ v h' tk p S' kk r => ?_) (hs _) sw_sub3
  obtain ⟨a, b, f, rfl, p⟩ := p
  obtain ⟨ad, vs, rfl, hx, ht, rr⟩ := r
  obtain ⟨v₁, r', rfl, g1, v₂, r'', rfl, g2, v₃, r''', rfl, g3, rfl⟩ := rr
  refine wpAny_assign_Tuple S.base.room.1 ht rfl rfl fun h₁ he => ?_
  have kp₁ : ∀ b o, h'.get? b = some o → h₁.get? b = some o := fun b o e => he b o (Nat.ne_of_lt (Heap.lt_size e)) e
  have up₁ : ∀ {t : PV} {v : Value}, Rep (c.plus (yof ow)).X h' t v → Rep (c.plus (yof ow)).X h₁ t v := fun {t v} r => Rep.keep (fun b o hx e => ⟨hx, kp₁ b o e⟩) t v r
  show wpAny _ _ (do holding [_, _] (assign (.Subscript (.Name x px) i p1) c.env v₁); do holding [_] (assign (.Subscript (.Name x px') j p2) c.env v₂); do holding [] (assign (.Name y py) c.env v₃); pure ()) _ _ _
  have S₁ : SSt c hb W ow ns τ D₁ h₁ := S'.ext kp₁
  refine wpAny_bind (wpAny_holding (assign_sub ?_))
  refine sub_store at' hF (s := { s with heap := h₁, toks := tk }) S₁ (up₁ g1) (p.mono fun u D₂ q => ?_) hd hc
  obtain ⟨u0, rfl, hu0, hl, rfl, τ1, σ1, sa1, at1, hF1, H2⟩ := q
  refine ⟨u0, rfl, by (exact zq5), by (exact zq27 hu0), by omega, τ1, by simpa using sa1, rfl, fun h₂ tk₂ S₂ k₂ => ?_⟩
  have up₂ : ∀ {t : PV} {v : Value}, Rep (c.plus (yof ow)).X h₁ t v → Rep (c.plus (yof ow)).X h₂ t v := fun {t v} r => Rep.keep (fun b o hx e => ⟨hx, k₂ b o (fun q => hx (.inr q)) (fun q => hx (.inl (S₁.dX b q).1)) e⟩) t v r
  refine wpAny_bind (wpAny_holding (assign_sub ?_))
  refine sub_store at1 hF1 (s := { s with heap := h₂, toks := tk₂ }) S₂ (up₂ (up₁ g2)) (H2.mono fun u D₃ q => ?_) hd hc
  obtain ⟨u1, rfl, hu1, rfl, τ2, τ3, k', sa2, sa3, hk', p⟩ := q
  refine ⟨u1, rfl, by (exact zq5), by simp; (exact zq120 hu1), by omega, τ2, by simpa using sa2, rfl, fun h₃ tk₃ S₃ k₃ => ?_⟩
  obtain ⟨t₃, rfl⟩ := g3
  refine wpAny_bind (wpAny_holding (wpAny_assign_Name (sst_store (s := { s with heap := h₃, toks := tk₃ }) sa3 hk' S₃ rep_int fun h₄ tk₄ S₄ k₄ => ?_)))
  exact wpAny_pure (KN τ3 _ ow h₄ tk₄ p S₄)
end
end Mine
namespace Mine

section
variable {c : Cx} {ns : Names} {σ : Vals} {τ : STs} {D : Int × Int}
theorem merged_two (x y : Value) : merged [] [(Gr, x), (Mx, y)] = [(Gr, x), (Mx, y)] := by
  simp [merged, stored, ne_GM]
/-- return {'great': .., 'mixed': ..} -/
theorem ret_draws {e1 e2 : Expr} {k1 k2 : Nat} {p1 p2 pos rpos : Pos} {P : Int → Int → Prop} (hd : c.d = none)
    {s : Shared} {Q : Flow → Shared → Prop} {E : Value → Shared → Prop} (S : ESt c ns σ D s.heap)
    (H : HE c ns σ D e1 fun t D₁ => ∃ x, t = .int x ∧ HE c ns σ D₁ e2 fun u D₂ => ∃ y, u = .int y ∧ P x y)
    (K : ∀ x y a h' tk, P x y → s.heap.get? a = none → DrawsAt c.prog c.w h' a (x, y) → (∀ b o, s.heap.get? b = some o → h'.get? b = some o) → Q (.ret (.ref a)) { s with heap := h', toks := tk }) :
    wpAny (model c.prog c.w) c.A (exec (.Return (some (.Dict [some (.Constant (.str "great") k1 p1), some (.Constant (.str "mixed") k2 p2)] [e1, e2] pos)) rpos) c.env) Q E s := by
  refine wpAny_Return_some (wpAny_Dict_walk (knd := strKind c.prog c.w) rfl rfl (by simp) (by simp) ?_)
  have S₀ : ESt c ns σ D (s.heap.push { cls := .type "dict", data := .dict #[] }) := S.push _
  have hfr : s.heap.get? s.heap.objs.size = none := Heap.get?_none_of_le (Nat.le_refl _)
  have dnew : (s.heap.push { cls := .type "dict", data := .dict #[] }).DictOf (strKind c.prog c.w) s.heap.objs.size [] := Heap.DictOf.new (knd := strKind c.prog c.w) s.heap
  have keepD : ∀ {h h' : Heap} {l : List (Str × Value)}, (∀ o, h.get? s.heap.objs.size = some o → h'.get? s.heap.objs.size = some o) → h.DictOf (strKind c.prog c.w) s.heap.objs.size l → h'.DictOf (strKind c.prog c.w) s.heap.objs.size l := fun k ⟨o, es, ep, ho, r⟩ => ⟨o, es, ep, k o ho, r⟩
  refine pairTrees_cons_walk (Constant_str ?_)
  refine H _ _ E S₀ fun t D₁ v h₁ tk₁ hp S₁ kk₁ r₁ => ?_
  obtain ⟨x, rfl, H₂⟩ := hp
  obtain ⟨t₁, rfl⟩ := r₁
  refine pairTrees_cons_walk (Constant_str ?_)
  refine H₂ _ _ E S₁ fun u D₂ v h₂ tk₂ hp S₂ kk₂ r₂ => ?_
  obtain ⟨y, rfl, hp⟩ := hp
  obtain ⟨t₂, rfl⟩ := r₂
  refine pairTrees_nil_walk ?_
  have hdn : ∀ b, c.d ≠ some b := fun b q => noS (hd) q
  refine ⟨[(Gr, .int x t₁), (Mx, .int y t₂)], ⟨strKind_is c.prog c.w _ _, rfl, strKind_is c.prog c.w _ _, rfl, trivial⟩, keepD (fun o e => kk₂ _ o (hdn _) (kk₁ _ o (hdn _) e)) dnew, fun h' hm sb => ?_⟩
  rw [merged_two] at hm
  refine K x y s.heap.objs.size h' _ hp hfr ⟨t₁, t₂, hm, trivial⟩ fun b o e => sb.extBut b o (fun q => ?_) (kk₂ b o (hdn b) (kk₁ b o (hdn b) (Heap.get?_push_of_some _ e)))
  rw [q, hfr] at e; cases e

theorem exec_hx {hb : Heap} {W : Addr → Prop} {ow : List (Str × Addr)} {st : Stmt} {sts : List Stmt} {N : SN} {s : Shared} {Q : Flow → Shared → Prop} {E : Value → Shared → Prop} (S : SSt c hb W ow ns τ D s.heap)
    (H : HS c ns τ D st N fun _ _ => False) (K : ∀ τ' D' ow' h' tk, N τ' D' → SSt c hb W ow' ns τ' D' h' → wpAny (model c.prog c.w) c.A (execs sts c.env) Q E { s with heap := h', toks := tk }) :
    wpAny (model c.prog c.w) c.A (execs (st :: sts) c.env) Q E s :=
  wpAny_execs_cons (H hb W ow s _ E S (fun τ' D' ow' h' tk p S' => K τ' D' ow' h' tk p S') fun _ _ _ _ _ p => p.elim)

/-- the draws come into the frame -/
theorem SSt.enter {hb h' : Heap} {W : Addr → Prop} {a : Addr} {D' : Int × Int} (S : SSt c hb W [] ns τ D h') (hd : c.d = none) (da : DrawsAt c.prog c.w h' a D') (hX : ¬ c.X a) (hg : c.g₀.get? a = none)
    (off : ∀ x k t, AtS ns τ x k (.val t) → ∀ v, Reads c.env h' x v k → Rep c.X h' t v → Rep (fun b => c.X b ∨ b = a) h' t v) :
    SSt { c with d := some a, X := fun b => c.X b ∨ b = a } h' (fun b => b = a ∨ Fo c.env b) [] ns τ D' h' := by
  have nfo : ¬ Fo c.env a := fun fo => hX (S.cx.inX a fo)
  have la : ∃ o, h'.get? a = some o := by obtain ⟨_, _, ⟨o, _, _, e, _⟩, _⟩ := da; exact ⟨o, e⟩
  have cx : CxOk { c with d := some a, X := fun b => c.X b ∨ b = a } := ⟨fun b fo => .inl (S.cx.inX b fo), S.cx.apart, S.cx.ne, S.cx.new, fun b fo q => by cases q; exact nfo fo⟩
  have lift : ∀ {t : PV} {v : Value}, Rep (fun b => c.X b ∨ b = a) h' t v → Rep (fun b => (c.X b ∨ b = a) ∨ b ∈ ([] : List (Str × Addr)).map (·.2)) h' t v := fun {t v} r => Rep.keep (fun b o hx e => ⟨fun q => hx (q.elim id fun q => nomatch q), e⟩) t v r
  have lower : ∀ {t : PV} {v : Value}, Rep (c.plus (([] : List (Str × Addr)).map (·.2))).X h' t v → Rep c.X h' t v := fun {t v} r => Rep.keep (fun b o hx e => ⟨fun q => hx (.inl q), e⟩) t v r
  exact
  { base := { base := S.base.base
              vars := fun x k t at' => by
                obtain ⟨v, r, rp⟩ := S.base.vars x k t at'
                exact ⟨v, r, lift (off x k t (AtS.of_base at') v r (lower rp))⟩
              dr := fun b q => by cases q; exact ⟨da, .inl (.inr rfl), hg⟩
              cx := ⟨fun b fo => .inl (cx.inX b fo), cx.apart, cx.ne, cx.new, cx.dne⟩
              live := fun b hb => by
                rcases hb with (q | q) | q
                · exact S.base.live b (.inl q)
                · rw [show b = a from q]; exact la
                · cases q
              ok := S.base.ok
              gl := S.base.gl
              room := S.base.room }
    own := fun x k l at' => by obtain ⟨_, _, hm, _⟩ := S.own x k l at'; cases hm
    apart := List.Pairwise.nil
    fresh := fun p hp => nomatch hp
    fr := ⟨S.fr.nd, S.fr.has, S.fr.cell⟩
    kp := fun b o _ e => e
    cx := cx
    dX := fun b q => by cases q; exact ⟨.inr rfl, .inl rfl⟩
    fo := fun b fo => .inl (.inr fo)
    lv := fun b q => q }

/-- a frame without cells, one argument -/
theorem sst_init {prog : Program} {w : World} {g₀ : Heap} {mg : Str → Option Value} {A : Around} {nm : Str} {scope : Scope} {L fa : Addr} {cd : Value} {h : Heap} {m : Str → Option Value} {x : Str} {t : PV} {v : Value}
    (G : GOk g₀ mg) (F : Fr g₀ L h m) (nL : g₀.get? L = none) (hk : scope.kind = .function) (nd : (scope.names.map (·.1)).Nodup) (nc : ∀ y, (y, NameKind.cell) ∉ scope.names) (ini : Ini [x] [t] scope.names τ) (hm : m x = some v)
    (r : Rep (fun _ => False) g₀ t v) (R : Room A 0) :
    SSt { prog := prog, w := w, g₀ := g₀, mg := mg, d := none, A := A, env := envOf nm scope L fa cd, X := Fo (envOf nm scope L fa cd) } g₀ (fun _ => False) [] scope.names τ (0, 0) h := by
  have foL : ∀ b, Fo (envOf nm scope L fa cd) b → b = L := fun b fo => fo.elim id fun ⟨_, q⟩ => nomatch q
  have foN : ∀ b, Fo (envOf nm scope L fa cd) b → g₀.get? b = none := fun b fo => by rw [foL b fo]; exact nL
  have liveL : ∃ o, h.get? L = some o := by obtain ⟨o, _, _, e, _⟩ := F.ns; exact ⟨o, e⟩
  have cx : CxOk { prog := prog, w := w, g₀ := g₀, mg := mg, d := none, A := A, env := envOf nm scope L fa cd, X := Fo (envOf nm scope L fa cd) } :=
    ⟨fun b fo => fo, List.Pairwise.nil, (fun n b hb => nomatch hb), foN, (fun b fo q => nomatch q)⟩
  exact
  { base := { base := fun b o e => F.keep b o e
              vars := fun y k t' at' => by
                have at₂ := AtS.of_base at'
                rcases ini.at at₂ with q | ⟨t₂, q, hlk, hkk⟩
                · cases q
                · cases q
                  have hy : y = x ∧ t' = t := by
                    rw [List.zip_cons_cons, List.lookup_cons] at hlk
                    by_cases q : y = x
                    · subst q; simp at hlk; exact ⟨rfl, hlk.symm⟩
                    · have : (y == x) = false := by simpa using q
                      rw [this] at hlk; simp at hlk
                  obtain ⟨rfl, rfl⟩ := hy
                  have hmem := at₂.mem
                  rcases hkk with rfl | rfl
                  · refine ⟨v, ⟨m, F.ns, hm⟩, Rep.keep (fun b o _ e => ⟨fun q => ?_, F.keep b o e⟩) _ _ r⟩
                    rcases q with q | q
                    · exact noS (foN b q) e
                    · cases q
                  · exact absurd hmem (nc _)
              dr := fun b q => nomatch q
              cx := ⟨fun b fo => .inl (cx.inX b fo), cx.apart, cx.ne, cx.new, cx.dne⟩
              live := fun b hb => by
                rcases hb with q | q
                · rw [foL b q]; exact liveL
                · cases q
              ok := ⟨hk, rfl, rfl, fun y k hy => lookup_of_mem' nd hy⟩
              gl := G
              room := R }
    own := fun y k l at' => by rcases ini.at at' with q | ⟨t', q, _⟩ <;> cases q
    apart := List.Pairwise.nil
    fresh := fun p hp => nomatch hp
    fr := ⟨nd, ⟨m, F.ns⟩, fun y hy => absurd hy (nc y)⟩
    kp := fun b o _ e => F.keep b o e
    cx := cx
    dX := fun b q => nomatch q
    fo := fun b fo => .inr (foN b fo)
    lv := fun b ⟨o, e⟩ => ⟨o, F.keep b o e⟩ }
end
end Mine
section
set_option maxRecDepth 20000
namespace Mine
local macro_rules | `(tactic| wtm_at "ix") => `(tactic| first | with_reducible exact Ix.hd rfl | ((with_reducible apply Ix.tl); wtm_at "ix"))
local macro_rules | `(tactic| wtm_at "at") => `(tactic| ((with_reducible apply AtG.ix); (wtm_at "ix"); (exact rfl)))
local macro_rules | `(tactic| wtm_at "ats") => `(tactic| ((with_reducible apply AtG.ix); (wtm_at "ix"); (exact rfl)))
local macro_rules | `(tactic| wtm_at "set") => `(tactic| ((with_reducible apply SetG.ix); (wtm_at "ix"); (exact rfl)))
local macro_rules | `(tactic| wtm_at "sete") => `(tactic| ((with_reducible apply SetG.ixe); (wtm_at "ix"); (exact rfl); (exact rfl)))
local macro_rules | `(tactic| wtm_at "sat") => `(tactic| ((with_reducible apply SetG.ix); (wtm_at "ix"); (exact rfl)))
local macro_rules | `(tactic| wtm_at "mem") => `(tactic| first | with_reducible exact List.mem_cons_self | ((with_reducible apply List.mem_cons_of_mem); wtm_at "mem"))
local macro_rules | `(tactic| wtm_at "full") => `(tactic| exact Full.self _)
local macro_rules | `(tactic| wtm_at "base") => `(tactic| exact Base.self _)
local macro_rules | `(tactic| wtm_at "plain") => `(tactic| first | exact trivial | (refine ⟨fun _ => rfl, ?_⟩; wtm_at "plain"))
local macro_rules | `(tactic| wtm_at "ini") => `(tactic| first | with_reducible exact Ini.nil | (refine Ini.val rfl (.inl rfl) ?_; wtm_at "ini") | (refine Ini.val rfl (.inr rfl) ?_; wtm_at "ini") | ((with_reducible refine Ini.no ?_); wtm_at "ini"))
local macro_rules | `(tactic| wtm_at "lc") => `(tactic| first | exact Or.inl rfl | exact Or.inr rfl)
local macro_rules | `(tactic| wtm_at "setl") => `(tactic| first | exact SetL.nil | ((with_reducible apply SetL.cons); (wtm_at "set"); (wtm_at "lc"); (wtm_at "setl")))
local macro_rules | `(tactic| wtm_at "nms") => `(tactic| first | with_reducible exact Nms.nil | ((with_reducible refine Nms.cons ?_); wtm_at "nms"))
local macro_rules | `(tactic| wtm_at "cap") => `(tactic| first | with_reducible exact Cap.nil | ((with_reducible apply Cap.free); (wtm_at "at"); (wtm_at "cap")) | ((with_reducible apply Cap.other); (exact rfl); (wtm_at "cap")))
local macro_rules | `(tactic| wtm_at "scok") => `(tactic| exact ⟨rfl, (by decide), (by decide), (by decide)⟩)
local macro_rules | `(tactic| wtm_at "ab") => `(tactic| ((with_reducible apply ha_base); (wtm_at "base"); intro _))
local macro_rules | `(tactic| wtm_at "af") => `(tactic| ((with_reducible apply ha_flat); (wtm_at "full")))
local macro_rules | `(tactic| wtm_at "an") => `(tactic| ((with_reducible apply ha_new); (wtm_at "full")))
local macro_rules | `(tactic| wtm_at "of") => `(tactic| ((with_reducible apply ho_flat); (wtm_at "full")))
local macro_rules | `(tactic| wtm_at "name") => `(tactic| ((with_reducible apply he_name (hd := rfl) (hc := rfl)); (wtm_at "at")))
local macro_rules | `(tactic| wtm_at "ret") => `(tactic| ((with_reducible apply hs_ret); (wtm_at "full")))
local macro_rules | `(tactic| wtm_at "if") => `(tactic| ((with_reducible apply hs_if); (wtm_at "full")))
local macro_rules | `(tactic| wtm_at "let") => `(tactic| refine hs_assign ?_)
local macro_rules | `(tactic| wtm_at "as") => `(tactic| refine ⟨_, _, (by wtm_at "set"), (by wtm_at "lc"), ?_⟩)
local macro_rules | `(tactic| wtm_at "tup2") => `(tactic| (refine hs_tup2 (by wtm_at "nms") (by first | exact swok_lit (by wtm_at "nms") (.inr rfl) | exact swok_lit (by wtm_at "nms") (.inl rfl) | exact swok_other) ?_))
local macro_rules | `(tactic| wtm_at "tup3") => `(tactic| (refine hs_tup3 (by wtm_at "nms") (by first | exact swok_lit (by wtm_at "nms") (.inr rfl) | exact swok_lit (by wtm_at "nms") (.inl rfl) | exact swok_other) ?_))
local macro_rules | `(tactic| wtm_at "tup4") => `(tactic| (refine hs_tup4 (by wtm_at "nms") (by first | exact swok_lit (by wtm_at "nms") (.inr rfl) | exact swok_lit (by wtm_at "nms") (.inl rfl) | exact swok_other) ?_))
local macro_rules | `(tactic| wtm_at "as2") => `(tactic| refine ⟨_, _, _, rfl, (by wtm_at "setl"), (by wtm_at "setl"), ?_⟩)
local macro_rules | `(tactic| wtm_at "as3") => `(tactic| refine ⟨_, _, _, _, rfl, (by wtm_at "setl"), (by wtm_at "setl"), ?_⟩)
local macro_rules | `(tactic| wtm_at "as4") => `(tactic| refine ⟨_, _, _, _, _, rfl, (by wtm_at "setl"), (by wtm_at "setl"), ?_⟩)
local macro_rules | `(tactic| wtm_at "op") => `(tactic| first | refine ⟨_, _, _, rfl, rfl, io_add, ?_⟩ | refine ⟨_, _, _, rfl, rfl, io_sub, ?_⟩ | refine ⟨_, _, _, rfl, rfl, io_mul ?_, ?_⟩ | refine ⟨_, _, _, rfl, rfl, io_mod ?_, ?_⟩ | refine ⟨_, _, _, rfl, rfl, io_div ?_ ?_, ?_⟩ | refine ⟨_, _, _, rfl, rfl, io_pow ?_ ?_, ?_⟩)
local macro_rules | `(tactic| wtm_at "cmp") => `(tactic| first | refine ⟨_, co_eq, ?_⟩ | refine ⟨_, co_ne, ?_⟩ | refine ⟨_, co_lt, ?_⟩ | refine ⟨_, co_le, ?_⟩ | refine ⟨_, co_gt, ?_⟩ | refine ⟨_, co_ge, ?_⟩)
local macro_rules | `(tactic| wtm_at "bi") => `(tactic| ((wtm_at "mem"); (assumption); (wtm_at "plain")))
local macro_rules | `(tactic| wtm_at "hx") => `(tactic| first
  | ((with_reducible apply he_name (hd := rfl) (hc := rfl)); (wtm_at "at"))
  | (with_reducible refine he_int ?_)
  | (with_reducible refine he_binop ?_)
  | ((with_reducible refine hls_cons ?_ ?_); rotate_left; (exact fun _ => rfl))
  | (with_reducible refine hls_nil ?_)
  | ((with_reducible apply he_len); rotate_left; ((wtm_at "mem"); (assumption); (wtm_at "plain")))
  | ((with_reducible refine he_cmp ?_ ?_); rotate_left; (with_unfolding_all exact rfl))
  | ((with_reducible refine ht_cmp ?_ ?_); rotate_left; (with_unfolding_all exact rfl))
  | ((with_reducible refine he_item ?_ ?_); rotate_left; (exact fun _ _ => by with_unfolding_all rfl))
  | (with_reducible refine he_ifexp ?_)
  | (with_reducible refine he_neg ?_)
  | (with_reducible refine he_tup ?_)
  | ((with_reducible apply he_abs); rotate_left; ((wtm_at "mem"); (assumption); (wtm_at "plain")))
  | ((with_reducible apply he_max); rotate_left; ((wtm_at "mem"); (assumption); (wtm_at "plain")))
  | (with_reducible refine ht_not ?_)
  | (with_reducible refine ht_and ?_)
  | (with_reducible refine ht_or ?_)
  | (with_reducible refine ⟨_, _, _, rfl, rfl, io_add, ?_⟩)
  | (with_reducible refine ⟨_, _, _, rfl, rfl, io_sub, ?_⟩)
  | (with_reducible first | refine ⟨_, co_eq, ?_⟩ | refine ⟨_, co_ne, ?_⟩ | refine ⟨_, co_lt, ?_⟩ | refine ⟨_, co_le, ?_⟩ | refine ⟨_, co_gt, ?_⟩ | refine ⟨_, co_ge, ?_⟩)
  | (with_reducible refine ite_tt ?_)
  | (with_reducible refine ite_ff ?_)
  | (refine ⟨le64 rfl, ?_⟩)
  | (with_reducible refine ⟨_, rfl, ?_⟩))
local macro_rules | `(tactic| wtm_at "go") => `(tactic| repeat (wtm_at "hx"))
local macro_rules | `(tactic| wtm_at "ok1") => `(tactic| exact ⟨rfl, rfl, rfl, (by decide), (by decide), (by decide), fun pm code doc vs h => vs1 (P := fun vs => bindArgs (docDef _ _ _ _ pm code doc) ⟨vs, []⟩ = pure (List.zip _ vs)) h fun _ => rfl⟩)
local macro_rules | `(tactic| wtm_at "ok2") => `(tactic| exact ⟨rfl, rfl, rfl, (by decide), (by decide), (by decide), fun pm code doc vs h => vs2 (P := fun vs => bindArgs (docDef _ _ _ _ pm code doc) ⟨vs, []⟩ = pure (List.zip _ vs)) h fun _ _ => rfl⟩)
local macro_rules | `(tactic| wtm_at "ok3") => `(tactic| exact ⟨rfl, rfl, rfl, (by decide), (by decide), (by decide), fun pm code doc vs h => vs3 (P := fun vs => bindArgs (docDef _ _ _ _ pm code doc) ⟨vs, []⟩ = pure (List.zip _ vs)) h fun _ _ _ => rfl⟩)
structure View (g₀ : Heap) (mg : Str → Option Value) : Prop where
  defs : ∀ name a b sc, vw.theDef name = some (a, b, sc) → a.defaults = [] → kwLiteralsOf? a.kwonlyargs a.kw_defaults = some [] → DefAt g₀ mg name a b sc
  len : mg "len" = none
  max : mg "max" = none
  abs : mg "abs" = none
  sum : mg "sum" = none
  list : mg "list" = none
  range : mg "range" = none
  enum : mg "enumerate" = none
  zip : mg "zip" = none

section
variable {prog : Program} {w : World} {g₀ : Heap} {mg : Str → Option Value} (V : View g₀ mg) (d : Option Addr)
include V
abbrev Phi := List PV → Int × Int → (PV → Int × Int → Prop) → Prop

omit V in
theorem Int.natAbs_gcd (a b : Int) : Int.gcd (a.natAbs : Int) (b.natAbs : Int) = Int.gcd a b := rfl
omit V in
theorem gcd_step {x y : Int} (hx : 0 ≤ x) (hy : 0 < y) : Int.gcd y (x.fmod y) = Int.gcd x y := by
  rw [Int.fmod_eq_emod_of_nonneg x (by (exact zq164 hy))]
  obtain ⟨n, rfl⟩ := Int.eq_ofNat_of_zero_le hx
  obtain ⟨m, rfl⟩ := Int.eq_ofNat_of_zero_le (Int.le_of_lt hy)
  show Nat.gcd m (n % m) = Nat.gcd n m
  rw [Nat.gcd_comm n m, Nat.gcd_rec m n, Nat.gcd_comm]

inductive GcdI (a b : Int) (D : Int × Int) (n : Nat) (τ : STs) (D' : Int × Int) : Prop
  | mk (x y : Int) (q1 : 0 ≤ x) (q2 : 0 ≤ y) (q3 : n = y.toNat) (q4 : Int.gcd x y = Int.gcd a b) (q5 : τ = [.val (.int x), .val (.int y), .no]) (q6 : D' = D) : GcdI a b D n τ D'
inductive Ph_gcd  (ts : List PV) (D : Int × Int) (Post : PV → Int × Int → Prop) : Prop
  | mk (a b : Int) (q1 : ts = [.int a, .int b]) (q2 : Post (.int (Int.gcd a b)) D) : Ph_gcd ts D Post
theorem fs_gcd : FS prog w g₀ mg d "gcd" 1 Ph_gcd := by
  have h1 := V.abs
  refine fs_of d (V.defs _ _ _ _ rfl rfl rfl) (xs := ["a", "b"]) (by wtm_at "ok2") ?_
  · rintro A env X ts D Post R ⟨a, b, rfl, post⟩
    refine ⟨rfl, [.val (.int a), .val (.int b), .no], (by wtm_at "ini"), ?_⟩
    refine hss_cons ?_
    wtm_at "tup2"
    wtm_at "ab"
    wtm_at "go"
    wtm_at "as2"
    refine hss_cons ?_
    refine hs_while ((GcdI a b D)) b.natAbs ⟨a.natAbs, b.natAbs, by (exact zq32), by (exact zq32), rfl, Int.natAbs_gcd a b, rfl, rfl⟩ ?_
    rintro n τ D' ⟨x, y, hx, hy, rfl, hg, rfl, rfl⟩
    refine ⟨_, (by wtm_at "full"), ?_⟩
    wtm_at "go"
    by_cases h : y = 0
    · subst h
      simp only [decide_true, Bool.not_true, Bool.false_eq_true, if_false]
      refine hss_one ?_
      wtm_at "ret"
      wtm_at "go"
      rw [Int.gcd_zero_right] at hg
      rw [← hg, show ((x.natAbs : Nat) : Int) = x by (exact zq191 hx hg)] at post
      exact post
    · rw [decide_eq_false h]
      refine hss_one ?_
      wtm_at "tup2"
      wtm_at "ab"
      wtm_at "go"
      refine ⟨_, _, _, rfl, rfl, io_mod h, ?_⟩
      wtm_at "go"
      wtm_at "as2"
      have h1 : 0 ≤ x.fmod y := Int.fmod_nonneg hx hy
      have h2 : x.fmod y < y := Int.fmod_lt_of_pos x (by (exact zq167 hy h))
      exact ⟨(x.fmod y).toNat, by (exact zq180 hy h1 h2), y, x.fmod y, hy, h1, rfl, by rw [← hg]; exact gcd_step hx (by (exact zq179 hy h1 h2) : 0 < y), rfl, rfl⟩
end
section
variable {prog : Program} {w : World} {g₀ : Heap} {mg : Str → Option Value} (V : View g₀ mg) (d : Option Addr)

theorem il_get {l : List Int} {i : Nat} {t : PV} (h : (il l)[i]? = some t) : ∃ x, l[i]? = some x ∧ t = .int x := by
  rw [List.getElem?_map, Option.map_eq_some_iff] at h
  obtain ⟨x, h1, h2⟩ := h
  exact ⟨x, h1, h2.symm⟩
theorem take_succ' {l : List Int} {i : Nat} {x : Int} (h : l[i]? = some x) : l.take (i + 1) = l.take i ++ [x] := by
  rw [List.take_add_one, h]; rfl
theorem idx_at {l : List Int} {i : Int} {x : Int} (h0 : 0 ≤ i) (h : l[i.toNat]? = some x) : idx (il l) i = some (.int x) := by
  unfold idx
  rw [if_pos h0, List.getElem?_map, h]; rfl
theorem idx_last {l : List Int} (h : l ≠ []) : idx (il l) (-1) = some (.int (Law.lead l)) := by
  have := List.length_pos_iff.mpr h
  unfold idx
  rw [if_neg (by decide), if_pos (by simp; (exact zq74 this)), List.getElem?_map]
  unfold Law.lead
  rw [List.getD_eq_getElem?_getD, show ((-1 : Int) + ((il l).length : Int)).toNat = l.length - 1 by simp; (exact zq75 this), List.getElem?_eq_getElem (by (exact zq7 this))]
  rfl

include V
theorem fs_gcd_all : FS prog w g₀ mg d "gcd_all" 2 fun ts D Post => ∃ l : List Int, ts = [.list (il l)] ∧ Post (.int (Law.gcdAll l)) D := by
  refine fs_of d (V.defs _ _ _ _ rfl rfl rfl) (xs := ["numbers"]) (by wtm_at "ok1") ?_
  rintro A env X ts D Post R ⟨l, rfl, post⟩
  refine ⟨rfl, [.val (.list (il l)), .no, .no, .no], (by wtm_at "ini"), ?_⟩
  refine hss_cons ?_
  wtm_at "let"
  wtm_at "ab"
  wtm_at "go"
  wtm_at "as"
  refine hss_cons ?_
  refine hs_for (his_base (by wtm_at "base") fun X => hi_list ?_)
  wtm_at "go"
  refine ⟨fun i τ D' => ∃ v, τ = [.val (.list (il l)), .val (.int (Law.gcdAll (l.take i))), v, .no] ∧ D' = D, ⟨.no, rfl, rfl⟩, ?_, ?_⟩
  · rintro i t τ D' ht ⟨v, rfl, rfl⟩
    obtain ⟨x, hx, rfl⟩ := il_get ht
    refine ⟨_, .name (by wtm_at "set") (.inl rfl), fun X => ?_⟩
    refine hss_one ?_
    wtm_at "let"
    wtm_at "ab"
    refine he_call (fs_gcd V d) R ?_ (by wtm_at "mem") rfl (by wtm_at "plain")
    wtm_at "go"
    refine ⟨_, _, rfl, ?_⟩
    wtm_at "as"
    refine ⟨.val (.int x), ?_, rfl⟩
    rw [take_succ' hx]
    unfold Law.gcdAll
    rw [List.foldl_append]
    rfl
  · rintro τ D' ⟨v, rfl, rfl⟩
    refine hss_one ?_
    wtm_at "ret"
    wtm_at "go"
    rw [show (il l).length = l.length by simp, List.take_length]
    exact post

omit V in
theorem trim_snoc0 (l : List Int) : Law.trim (l ++ [0]) = Law.trim l := Law.norm_ext (Law.trim_norm _) (Law.trim_norm _) fun i => by
  rw [Law.trim_cf, Law.trim_cf]
  unfold Law.cf
  simp only [List.getD_eq_getElem?_getD]
  by_cases h : i < l.length
  · rw [List.getElem?_append_left h]
  · rw [List.getElem?_append_right (by (exact zq2 h)), List.getElem?_eq_none (by (exact zq2 h) : l.length ≤ i)]
    cases hi : i - l.length <;> simp
omit V in
theorem trim_snoc {l : List Int} {x : Int} (h : x ≠ 0) : Law.trim (l ++ [x]) = l ++ [x] := Law.trim_id fun _ => by
  unfold Law.lead
  simp [List.getD_eq_getElem?_getD]; exact h

theorem fs_ztrim : FS prog w g₀ mg d "ztrim" 1 fun ts D Post => ∃ l : List Int, ts = [.list (il l)] ∧ l.length ≤ 65536 ∧ Post (.list (il (Law.trim l))) D := by
  have h1 := V.len
  have h2 := V.list
  refine fs_of d (V.defs _ _ _ _ rfl rfl rfl) (xs := ["row"]) (by wtm_at "ok1") ?_
  rintro A env X ts D Post R ⟨l, rfl, hl, post⟩
  refine ⟨rfl, [.val (.list (il l)), .no, .no, .no], (by wtm_at "ini"), ?_⟩
  refine hss_cons ?_
  wtm_at "let"
  wtm_at "ab"
  wtm_at "go"
  refine ⟨sl64 (by simpa using hl), ?_⟩
  wtm_at "as"
  refine hss_cons ?_
  refine hs_while (fun n τ D' => n ≤ l.length ∧ Law.trim (l.take n) = Law.trim l ∧ τ = [.val (.list (il l)), .val (.int n), .no, .no] ∧ D' = D) l.length ⟨Nat.le_refl _, by rw [List.take_length], by simp, rfl⟩ ?_
  rintro n τ D' ⟨hn, ht, rfl, rfl⟩
  refine ⟨_, (by wtm_at "full"), ?_⟩
  wtm_at "go"
  cases n with
  | zero =>
    refine ite_f (by (exact zq163)) ?_
    refine hss_one ?_
    wtm_at "ret"
    refine HN.he (hn_copy ?_ (by wtm_at "mem") h2 (by wtm_at "plain"))
    refine HN.he (hn_upto (n := 0) ?_ (fun _ _ => by with_unfolding_all rfl))
    wtm_at "go"
    refine ⟨by simpa using hl, ?_, ?_⟩
    · wtm_at "go"
      exact ⟨rfl, rfl⟩
    · refine ⟨_, rfl, by simp, ?_⟩
      rw [List.take_zero] at ht ⊢
      have e : Law.trim l = [] := by rw [← ht]; rfl
      rw [e] at post; exact post
  | succ n =>
    refine ite_t (by (exact zq208)) ?_
    wtm_at "go"
    have hx : l[n]? = some l[n] := List.getElem?_eq_getElem (by (exact zq384 hn))
    refine ⟨_, _, _, rfl, sl64 (by simpa using hl), rfl, idx_at (by (exact zq209)) (by rw [show (((n + 1 : Nat) : Int) - 1).toNat = n by (exact zq214)]; exact hx), ?_⟩
    wtm_at "go"
    by_cases hz : l[n] = 0
    · refine ite_t hz ?_
      refine hss_one ?_
      refine hs_sub (by wtm_at "ats") (by wtm_at "full") ?_
      wtm_at "go"
      refine ⟨_, (by wtm_at "set"), (by wtm_at "lc"), n, by (exact zq383 hn), by (exact zq26 hn), ?_, ?_, rfl⟩
      · rw [take_succ' hx, hz, trim_snoc0] at ht; exact ht
      · rw [show ((n + 1 : Nat) : Int) - 1 = (n : Int) by (exact zq382 hn)]; rfl
    · refine ite_f hz ?_
      refine hss_one ?_
      wtm_at "ret"
      refine HN.he (hn_copy ?_ (by wtm_at "mem") h2 (by wtm_at "plain"))
      refine HN.he (hn_upto (n := n + 1) ?_ (fun _ _ => by with_unfolding_all rfl))
      wtm_at "go"
      refine ⟨by simpa using hl, ?_, ?_⟩
      · wtm_at "go"
        exact ⟨rfl, rfl⟩
      · refine ⟨_, rfl, sl64 (by simp; (exact zq459 hl hn)), ?_⟩
        rw [take_succ' hx, trim_snoc hz, ← take_succ' hx] at ht
        rw [← List.map_take, ht]
        exact post

theorem fs_zdegree : FS prog w g₀ mg d "zdegree" 1 fun ts D Post => ∃ l : List PV, ts = [.list l] ∧ l.length ≤ 65536 ∧ Post (.int (l.length - 1)) D := by
  have h1 := V.len
  refine fs_of d (V.defs _ _ _ _ rfl rfl rfl) (xs := ["p"]) (by wtm_at "ok1") ?_
  rintro A env X ts D Post R ⟨l, rfl, hl, post⟩
  refine ⟨rfl, [.val (.list l), .no], (by wtm_at "ini"), ?_⟩
  refine hss_one ?_
  wtm_at "ret"
  wtm_at "go"
  refine ⟨sl64 hl, ?_⟩
  wtm_at "go"
  exact post

theorem fs_zlead : FS prog w g₀ mg d "zlead" 1 fun ts D Post => ∃ l : List Int, ts = [.list (il l)] ∧ l.length ≤ 65536 ∧ Post (.int (Law.lead l)) D := by
  have h1 := V.len
  refine fs_of d (V.defs _ _ _ _ rfl rfl rfl) (xs := ["p"]) (by wtm_at "ok1") ?_
  rintro A env X ts D Post R ⟨l, rfl, hl, post⟩
  refine ⟨rfl, [.val (.list (il l)), .no], (by wtm_at "ini"), ?_⟩
  refine hss_one ?_
  wtm_at "ret"
  wtm_at "go"
  refine ⟨sl64 (by simpa using hl), ?_⟩
  wtm_at "go"
  by_cases h : l = []
  · subst h
    refine ite_f (by decide) ?_
    wtm_at "go"
    exact post
  · have := List.length_pos_iff.mpr h
    refine ite_t (by simp; (exact zq318 hl this)) ?_
    wtm_at "go"
    exact ⟨_, _, _, rfl, sl64 (by simpa using hl), rfl, idx_last h, post⟩
end
section
variable {prog : Program} {w : World} {g₀ : Heap} {mg : Str → Option Value} (V : View g₀ mg) (d : Option Addr)
theorem il_at {l : List Int} {i : Nat} {t : PV} (h : (il l)[i]? = some t) : i < l.length ∧ t = .int (l.getD i 0) := by
  have hi := (List.getElem?_eq_some_iff.mp h).1
  have hi : i < l.length := by simpa using hi
  refine ⟨hi, ?_⟩
  simp only [il, List.getElem?_map, List.getElem?_eq_getElem hi] at h
  rw [List.getD_eq_getElem?_getD, List.getElem?_eq_getElem hi]
  exact (Option.some.inj h).symm

include V
theorem fs_zneg : FS prog w g₀ mg d "zneg" 1 fun ts D Post => ∃ l : List Int, ts = [.list (il l)] ∧ l.length ≤ 65536 ∧ Post (.list (il (Law.zneg l))) D := by
  refine fs_of d (V.defs _ _ _ _ rfl rfl rfl) (xs := ["p"]) (by wtm_at "ok1") ?_
  rintro A env X ts D Post R ⟨l, rfl, hl, post⟩
  refine ⟨rfl, [.val (.list (il l))], (by wtm_at "ini"), ?_⟩
  refine hss_one ?_
  wtm_at "ret"
  refine HN.he (hn_comp (by wtm_at "scok") (by wtm_at "cap") (hi_list ?_))
  wtm_at "go"
  refine comp_map (fun i => .int (-(l.getD i 0))) (by simpa using hl) (fun i t ht => ?_) ?_
  · obtain ⟨hi, rfl⟩ := il_at ht
    refine ⟨_, .name (by wtm_at "sat") rfl, fun env X => ?_⟩
    wtm_at "go"
    exact ⟨rfl, rfl⟩
  · rw [show (il l).length = l.length by simp, range_map_il (fun x => -x) l]
    exact post

inductive Ph_zadd  (ts : List PV) (D : Int × Int) (Post : PV → Int × Int → Prop) : Prop
  | mk (a b : List Int) (q1 : ts = [.list (il a), .list (il b)]) (q2 : a.length ≤ 65536) (q3 : b.length ≤ 65536) (q4 : Post (.list (il (Law.zadd a b))) D) : Ph_zadd ts D Post
theorem fs_zadd : FS prog w g₀ mg d "zadd" 2 Ph_zadd := by
  have h1 := V.len
  have h2 := V.max
  have h3 := V.range
  refine fs_of d (V.defs _ _ _ _ rfl rfl rfl) (xs := ["a", "b"]) (by wtm_at "ok2") ?_
  rintro A env X ts D Post R ⟨a, b, rfl, ha, hb, post⟩
  refine ⟨rfl, [.val (.list (il a)), .val (.list (il b)), .no, .no, .no, .no, .no], (by wtm_at "ini"), ?_⟩
  refine hss_cons ?_
  wtm_at "let"
  wtm_at "ab"
  wtm_at "go"
  refine ⟨sl64 (by simpa using ha), ?_⟩
  wtm_at "go"
  refine ⟨sl64 (by simpa using hb), ?_⟩
  refine ⟨_, _, rfl, rfl, ?_⟩
  wtm_at "as"
  refine hss_one ?_
  wtm_at "ret"
  refine he_call (fs_ztrim V d) R ?_ (by wtm_at "mem") rfl (by wtm_at "plain")
  refine hls_cons (HN.he (hn_comp (by wtm_at "scok") (by wtm_at "cap") (hi_range1 ?_ (by wtm_at "mem") h3 (by wtm_at "plain"))))
  wtm_at "go"
  refine ⟨by (exact zq341), by simp; (exact zq416 ha hb), ?_⟩
  have hn : (il (upto 0 (max ((il a).length : Int) ((il b).length : Int)))).length = max a.length b.length := by rw [upto_len]; simp; (exact zq415 ha hb)
  refine comp_map (fun i => .int (a.getD i 0 + b.getD i 0)) (by rw [hn]; (exact zq126 ha hb)) (fun i t ht => ?_) ?_
  · obtain ⟨hi, rfl⟩ := upto_at ht
    refine ⟨_, .name (by wtm_at "sat") rfl, fun env X => ?_⟩
    have h0 : (0 : Int) + (i : Int) = (i : Int) := by (exact zq11)
    refine he_binop (he_pick (l := a) (i := i) ?_ (fun hi => ?_) ?_ (he_pick (l := b) (i := i) ?_ (fun hi => ?_) ?_ ?_))
    · wtm_at "go"
      refine ⟨sl64 (by simpa using ha), ?_⟩
      wtm_at "go"
      exact ⟨by rw [h0]; simp, rfl⟩
    · wtm_at "go"
      exact ⟨_, _, _, rfl, sl64 (by simpa using ha), rfl, idx_cf h0 hi, rfl, rfl⟩
    · wtm_at "go"
      exact ⟨rfl, rfl⟩
    · wtm_at "go"
      refine ⟨sl64 (by simpa using hb), ?_⟩
      wtm_at "go"
      exact ⟨by rw [h0]; simp, rfl⟩
    · wtm_at "go"
      exact ⟨_, _, _, rfl, sl64 (by simpa using hb), rfl, idx_cf h0 hi, rfl, rfl⟩
    · wtm_at "go"
      exact ⟨rfl, rfl⟩
    · wtm_at "go"
      exact ⟨rfl, rfl⟩
  · rw [hn]
    wtm_at "go"
    refine ⟨(List.range (max a.length b.length)).map fun i => a.getD i 0 + b.getD i 0, by simp, by simp; (exact zq126 ha hb), ?_⟩
    exact post
inductive Ph_zsub  (ts : List PV) (D : Int × Int) (Post : PV → Int × Int → Prop) : Prop
  | mk (a b : List Int) (q1 : ts = [.list (il a), .list (il b)]) (q2 : a.length ≤ 65536) (q3 : b.length ≤ 65536) (q4 : Post (.list (il (Law.zsub a b))) D) : Ph_zsub ts D Post
theorem fs_zsub : FS prog w g₀ mg d "zsub" 3 Ph_zsub := by
  refine fs_of d (V.defs _ _ _ _ rfl rfl rfl) (xs := ["a", "b"]) (by wtm_at "ok2") ?_
  rintro A env X ts D Post R ⟨a, b, rfl, ha, hb, post⟩
  refine ⟨rfl, [.val (.list (il a)), .val (.list (il b)), .no, .no], (by wtm_at "ini"), ?_⟩
  refine hss_one ?_
  wtm_at "ret"
  refine he_call (fs_zadd V d) R ?_ (by wtm_at "mem") rfl (by wtm_at "plain")
  wtm_at "go"
  refine he_call (fs_zneg V d) (R.le (by decide)) ?_ (by wtm_at "mem") rfl (by wtm_at "plain")
  wtm_at "go"
  refine ⟨hb, ?_⟩
  wtm_at "go"
  exact ⟨_, _, rfl, ha, by simp [Law.zneg]; exact hb, post⟩
inductive Ph_zscale  (ts : List PV) (D : Int × Int) (Post : PV → Int × Int → Prop) : Prop
  | mk (l : List Int) (k : Int) (m n : Nat) (q1 : ts = [.list (il l), .int k]) (q2 : l.length ≤ 65536) (q3 : SzL m l) (q4 : Sz n k) (q5 : m ≤ 1000000) (q6 : n ≤ 1000000) (q7 : Post (.list (il (Law.zscale l k))) D) : Ph_zscale ts D Post
theorem fs_zscale : FS prog w g₀ mg d "zscale" 1 Ph_zscale := by
  refine fs_of d (V.defs _ _ _ _ rfl rfl rfl) (xs := ["p", "k"]) (by wtm_at "ok2") ?_
  rintro A env X ts D Post R ⟨l, k, m, n, rfl, hl, hm, hn, hm', hn', post⟩
  refine ⟨rfl, [.val (.list (il l)), .val (.int k)], (by wtm_at "ini"), ?_⟩
  refine hss_one ?_
  wtm_at "ret"
  wtm_at "go"
  unfold Law.zscale at post
  by_cases hk : k = 0
  · refine ite_nf hk ?_
    rw [if_pos hk] at post
    refine HN.he (hn_lst ?_)
    wtm_at "go"
    exact post
  · refine ite_nt hk ?_
    rw [if_neg hk] at post
    refine HN.he (hn_comp (by wtm_at "scok") (by wtm_at "cap") (hi_list ?_))
    wtm_at "go"
    refine comp_map (fun i => .int (l.getD i 0 * k)) (by simpa using hl) (fun i t ht => ?_) ?_
    · obtain ⟨hi, rfl⟩ := il_at ht
      refine ⟨_, .name (by wtm_at "sat") rfl, fun env X => ?_⟩
      wtm_at "go"
      exact ⟨_, _, _, rfl, rfl, io_mul (mulOk (hm.getD i) hn hm' hn'), rfl, rfl⟩
    · rw [show (il l).length = l.length by simp, range_map_il (fun x => x * k) l]
      exact post
inductive Ph_zraise  (ts : List PV) (D : Int × Int) (Post : PV → Int × Int → Prop) : Prop
  | mk (l : List Int) (n : Nat) (q1 : ts = [.list (il l), .int n]) (q2 : l.length ≤ 32768) (q3 : n ≤ 32768) (q4 : Post (.list (il (Law.zraise l n))) D) : Ph_zraise ts D Post
theorem fs_zraise : FS prog w g₀ mg d "zraise" 1 Ph_zraise := by
  have h1 := V.len
  have h2 := V.list
  refine fs_of d (V.defs _ _ _ _ rfl rfl rfl) (xs := ["p", "many"]) (by wtm_at "ok2") ?_
  rintro A env X ts D Post R ⟨l, n, rfl, hl, hn, post⟩
  refine ⟨rfl, [.val (.list (il l)), .val (.int n), .no, .no], (by wtm_at "ini"), ?_⟩
  refine hss_one ?_
  wtm_at "ret"
  wtm_at "go"
  refine ⟨sl64 (by simp; (exact zq304 hl)), ?_⟩
  wtm_at "go"
  unfold Law.zraise at post
  by_cases hk : l = []
  · subst hk
    refine ite_f (by decide) ?_
    refine HN.he (hn_lst ?_)
    wtm_at "go"
    exact post
  · have := List.length_pos_iff.mpr hk
    refine ite_t (by simp; (exact zq305 hl this)) ?_
    rw [if_neg hk] at post
    refine HN.he (hn_cat (HN.he (hn_mul1 ?_)))
    wtm_at "go"
    refine ⟨by (exact zq302 hn), by (exact zq303 hn), ?_⟩
    refine HN.he (hn_copy ?_ (by wtm_at "mem") h2 (by wtm_at "plain"))
    wtm_at "go"
    refine ⟨sl64 (by simp; (exact zq306 hl this)), _, _, rfl, rfl, sl64 (by simp; (exact zq455 hl hn this)), ?_⟩
    rw [show il (List.replicate n 0 ++ l) = List.replicate ((n : Int)).toNat (PV.int 0) ++ il l by simp [il]] at post
    exact post
theorem fs_zcontent : FS prog w g₀ mg d "zcontent" 3 fun ts D Post => ∃ l : List Int, ts = [.list (il l)] ∧ Post (.int (Law.gcdAll l)) D := by
  refine fs_of d (V.defs _ _ _ _ rfl rfl rfl) (xs := ["p"]) (by wtm_at "ok1") ?_
  rintro A env X ts D Post R ⟨l, rfl, post⟩
  refine ⟨rfl, [.val (.list (il l)), .no], (by wtm_at "ini"), ?_⟩
  refine hss_one ?_
  wtm_at "ret"
  refine he_call (fs_gcd_all V d) R ?_ (by wtm_at "mem") rfl (by wtm_at "plain")
  wtm_at "go"
  exact post
inductive Ph_divided  (ts : List PV) (D : Int × Int) (Post : PV → Int × Int → Prop) : Prop
  | mk (l : List Int) (k : Int) (n : Nat) (q1 : ts = [.list (il l), .int k]) (q2 : l.length ≤ 65536) (q3 : k ≠ 0) (q4 : Sz n k) (q5 : n ≤ 9000) (q6 : Post (.list (il (Law.divided l k))) D) : Ph_divided ts D Post
theorem fs_divided : FS prog w g₀ mg d "divided" 1 Ph_divided := by
  refine fs_of d (V.defs _ _ _ _ rfl rfl rfl) (xs := ["p", "number"]) (by wtm_at "ok2") ?_
  rintro A env X ts D Post R ⟨l, k, n, rfl, hl, hk, hn, hn', post⟩
  refine ⟨rfl, [.val (.list (il l)), .val (.int k)], (by wtm_at "ini"), ?_⟩
  refine hss_one ?_
  wtm_at "ret"
  refine HN.he (hn_comp (by wtm_at "scok") (by wtm_at "cap") (hi_list ?_))
  wtm_at "go"
  refine comp_map (fun i => .int ((l.getD i 0).fdiv k)) (by simpa using hl) (fun i t ht => ?_) ?_
  · obtain ⟨hi, rfl⟩ := il_at ht
    refine ⟨_, .name (by wtm_at "sat") rfl, fun env X => ?_⟩
    wtm_at "go"
    exact ⟨_, _, _, rfl, rfl, io_div hk (noPy hn hn'), rfl, rfl⟩
  · rw [show (il l).length = l.length by simp, range_map_il (fun x => x.fdiv k) l]
    exact post
omit V in
theorem enums_at {l : List Int} {i : Nat} {t : PV} (h : (enums (il l))[i]? = some t) : i < l.length ∧ t = .tup [.int i, .int (l.getD i 0)] := by
  have hi := (List.getElem?_eq_some_iff.mp h).1
  have hi : i < l.length := by simpa [enums] using hi
  refine ⟨hi, ?_⟩
  simp [enums, hi] at h
  rw [List.getD_eq_getElem?_getD, List.getElem?_eq_getElem hi]
  exact h.symm
omit V in
theorem derive_drop (l : List Int) : ((List.range l.length).map fun i : Nat => PV.int (l.getD i 0 * (i : Int))).drop 1 = il (Law.derive l) := by
  unfold Law.derive
  apply List.ext_getElem (by simp)
  intro i h1 h2
  simp [il]
inductive Ph_zderive  (ts : List PV) (D : Int × Int) (Post : PV → Int × Int → Prop) : Prop
  | mk (l : List Int) (m : Nat) (q1 : ts = [.list (il l)]) (q2 : l.length ≤ 65536) (q3 : SzL m l) (q4 : m ≤ 1000000) (q5 : Post (.list (il (Law.derive l))) D) : Ph_zderive ts D Post
theorem fs_zderive : FS prog w g₀ mg d "zderive" 1 Ph_zderive := by
  have h2 := V.enum
  refine fs_of d (V.defs _ _ _ _ rfl rfl rfl) (xs := ["p"]) (by wtm_at "ok1") ?_
  rintro A env X ts D Post R ⟨l, m, rfl, hl, hm, hm', post⟩
  refine ⟨rfl, [.val (.list (il l)), .no], (by wtm_at "ini"), ?_⟩
  refine hss_one ?_
  wtm_at "ret"
  refine HN.he (hn_from (n := 1) (HN.he (hn_comp (by wtm_at "scok") (by wtm_at "cap") (hi_enum ?_ (by wtm_at "mem") h2 (by wtm_at "plain")))) (fun _ _ => by with_unfolding_all rfl))
  wtm_at "go"
  have hn : (enums (il l)).length = l.length := by simp [enums]
  refine comp_map (fun i => .int (l.getD i 0 * (i : Int))) (by rw [hn]; exact hl) (fun i t ht => ?_) ?_
  · obtain ⟨hi, rfl⟩ := enums_at ht
    refine ⟨_, .two (by wtm_at "sat") rfl (by wtm_at "sat") rfl, fun env X => ?_⟩
    wtm_at "go"
    exact ⟨_, _, _, rfl, rfl, io_mul (mulOk (hm.getD i) (b := 20) (by show _ < _; simp; (exact zq143 hl hn hi)) hm' (by decide)), rfl, rfl⟩
  · rw [hn]
    refine ⟨_, rfl, by simp; exact hl, ?_, ?_⟩
    · wtm_at "go"
      exact ⟨rfl, rfl⟩
    · rw [derive_drop]; exact post
end
section
variable {prog : Program} {w : World} {g₀ : Heap} {mg : Str → Option Value} (V : View g₀ mg) (d : Option Addr)

theorem szl_zscale {m n : Nat} {p : List Int} {k : Int} (h : SzL m p) (hk : Sz n k) : SzL (m + n) (Law.zscale p k) := SzL.of_cf fun i => by
  rw [Law.zscale_cf]; exact (h.cf i).mul hk
theorem szl_zraise {m n : Nat} {p : List Int} (h : SzL m p) : SzL m (Law.zraise p n) := SzL.of_cf fun i => by
  rw [Law.zraise_cf]; unfold Law.sh; split
  · exact Sz.zero
  · exact h.cf _
theorem szl_zsub {m : Nat} {a b : List Int} (h : SzL m a) (h' : SzL m b) : SzL (m + 1) (Law.zsub a b) := SzL.of_cf fun i => by
  rw [Law.zsub_cf]; exact (h.cf i).sub (h'.cf i)
theorem len_zscale (p : List Int) (k : Int) : (Law.zscale p k).length ≤ p.length := by unfold Law.zscale; split <;> simp
theorem len_zraise (p : List Int) (n : Nat) : (Law.zraise p n).length ≤ n + p.length := by unfold Law.zraise; split <;> simp
theorem len_zsub (a b : List Int) : (Law.zsub a b).length ≤ max a.length b.length := by
  unfold Law.zsub Law.zadd
  exact Nat.le_trans (Law.trim_len _) (by simp [Law.zneg])
theorem szl_pstep {m k : Nat} {b rest : List Int} (hr : SzL m rest) (hb : SzL k b) : SzL (m + k + 1) (Law.pstep b rest) := by
  unfold Law.pstep
  exact szl_zsub (szl_zscale hr (hb.getD _)) ((szl_zraise (szl_zscale hb (hr.getD _))).mono (by (exact zq344)))
theorem ploop_end {b rest : List Int} (n : Nat) (h : rest.length < b.length) : Law.ploop b n rest = Law.zscale rest (Law.lead b ^ n) := by
  cases n with
  | zero =>
    unfold Law.ploop Law.zscale
    rw [Int.pow_zero, if_neg (by decide)]; simp
  | succ n => unfold Law.ploop; rw [if_neg (by (exact zq444 h))]
theorem szl_ploop {k : Nat} {b : List Int} (hb : SzL k b) : ∀ (n : Nat) {m : Nat} {rest : List Int}, SzL m rest → SzL (m + n * (k + 1) + 1) (Law.ploop b n rest)
  | 0, m, rest, h => h.mono (by (exact zq348))
  | n + 1, m, rest, h => by
    unfold Law.ploop
    split
    · exact (szl_ploop hb n (szl_pstep h hb)).mono (by rw [Nat.succ_mul]; (exact zq492))
    · exact (szl_zscale h ((hb.getD _).pow (n + 1))).mono (by rw [Nat.mul_succ, Nat.add_one_mul, Nat.mul_add, Nat.mul_comm k n]; (exact zq489))
theorem szl_prest {k : Nat} {a b : List Int} (ha : SzL k a) (hb : SzL k b) : SzL (k + (a.length + 1 - b.length) * (k + 1) + 1) (Law.prest a b) := szl_ploop hb _ ha

include V
theorem fs_check_bottom : FS prog w g₀ mg d "check_bottom" 1 fun ts D Post => ∃ l : List Int, ts = [.list (il l)] ∧ l ≠ [] ∧ l.length ≤ 65536 ∧ Post .none D := by
  have h1 := V.len
  refine fs_of d (V.defs _ _ _ _ rfl rfl rfl) (xs := ["p"]) (by wtm_at "ok1") ?_
  rintro A env X ts D Post R ⟨l, rfl, hne, hl, post⟩
  have := List.length_pos_iff.mpr hne
  refine ⟨rfl, [.val (.list (il l)), .no, .no], (by wtm_at "ini"), ?_⟩
  refine hss_one ?_
  wtm_at "if"
  wtm_at "go"
  refine ⟨sl64 (by simpa using hl), ?_⟩
  wtm_at "go"
  refine ite_f (by simp; omega) ?_
  exact hss_nil post

inductive PseI (a b : List Int) (k n : Nat) (D : Int × Int) (l : Nat) (τ : STs) (D' : Int × Int) : Prop
  | mk (rest found : List Int) (t : Nat) (v1 v2 v3 : SV) (q1 : Law.Norm rest) (q2 : rest.length ≤ 100) (q3 : found.length ≤ 201) (q4 : rest.length + 1 ≤ b.length + l) (q5 : Law.ploop b l rest = Law.prest a b) (q6 : t + l = n) (q7 : SzL (k + t * (k + 1)) rest) (q8 : SzL (k + t * (k + 1)) found) (q9 : D' = D) (q10 : τ = [.val (.list (il a)), .val (.list (il b)), .val (.int n), .val (.list (il rest)), .val (.list (il found)), .val (.int l), .val (.int (Law.lead b)), v1, v2, v3, .no, .no, .no, .no, .no, .no, .no, .no]) : PseI a b k n D l τ D'
inductive Ph_pseudo  (ts : List PV) (D : Int × Int) (Post : PV → Int × Int → Prop) : Prop
  | mk (a b : List Int) (k : Nat) (q1 : ts = [.list (il a), .list (il b)]) (q2 : b ≠ []) (q3 : Law.Norm a) (q4 : Law.Norm b) (q5 : b.length ≤ a.length) (q6 : a.length ≤ 100) (q7 : SzL k a) (q8 : SzL k b) (q9 : k ≤ 5000) (q10 : ∀ q, Post (.tup [.list q, .list (il (Law.prest a b)), .int ((a.length + 1 - b.length : Nat) : Int)]) D) : Ph_pseudo ts D Post
theorem fs_pseudo : FS prog w g₀ mg d "pseudo" 4 Ph_pseudo := by
  have h1 := V.len
  have h2 := V.list
  have h3 := V.max
  refine fs_of d (V.defs _ _ _ _ rfl rfl rfl) (xs := ["a", "b"]) (by wtm_at "ok2") ?_
  rintro A env X ts D Post R ⟨a, b, k, rfl, hb, na, nb, hle, ha, ka, kb, hk, post⟩
  have hbl := List.length_pos_iff.mpr hb
  refine ⟨rfl, [.val (.list (il a)), .val (.list (il b)), .no, .no, .no, .no, .no, .no, .no, .no, .no, .no, .no, .no, .no, .no, .no, .no], (by wtm_at "ini"), ?_⟩
  refine hss_cons ?_
  refine hs_expr (P := fun _ _ => True) ?_
  wtm_at "ab"
  refine he_call (fs_check_bottom V d) (R.le (by decide)) ?_ (by wtm_at "mem") rfl (by wtm_at "plain")
  wtm_at "go"
  refine ⟨hb, by (exact zq9 hle ha), ?_⟩
  refine hss_cons ?_
  wtm_at "let"
  wtm_at "ab"
  wtm_at "go"
  refine ⟨sl64 (by simp; (exact zq1 ha)), ?_⟩
  wtm_at "go"
  refine ⟨sl64 (by simp; (exact zq9 hle ha)), ?_⟩
  wtm_at "go"
  refine ⟨_, _, rfl, rfl, ?_⟩
  wtm_at "as"
  generalize hN : a.length + 1 - b.length = n at post
  rw [show max (0 : Int) (((il a).length : Int) - ((il b).length : Int) + 1) = (n : Int) by simp; (exact zq563 hle hN)]
  refine hss_cons ?_
  wtm_at "tup4"
  wtm_at "ab"
  wtm_at "hx"
  refine hls_cons (HN.he (hn_copy ?_ (by wtm_at "mem") h2 (by wtm_at "plain")))
  wtm_at "go"
  refine ⟨sl64 (by simp; (exact zq1 ha)), ?_⟩
  refine hls_cons (HN.he (hn_lst ?_))
  wtm_at "go"
  refine he_call (fs_zlead V d) (R.le (by decide)) ?_ (by wtm_at "mem") rfl (by wtm_at "plain")
  wtm_at "go"
  refine ⟨by (exact zq9 hle ha), ?_⟩
  wtm_at "go"
  wtm_at "as4"
  refine hss_cons ?_
  refine hs_while ((PseI a b k n D)) n
    ⟨a, [], 0, .no, .no, .no, na, ha, by simp, by (exact zq564 hle hN), by rw [← hN]; rfl, by (exact zq206), ka.mono (by (exact zq73)), fun x hx => (nomatch hx), rfl, rfl⟩ ?_
  rintro l τ D' ⟨rest, found, t, v1, v2, v3, nr, hr, hf, hfuel, hpl, htl, szr, szf, rfl, rfl⟩
  have hn : n ≤ 101 := by (exact zq652 hle ha hbl hN htl)
  have htk : t * (k + 1) ≤ 101 * 5001 := Nat.mul_le_mul (by (exact zq647 hN htl hn)) (by (exact zq311 hk))
  refine ⟨_, (by wtm_at "full"), ?_⟩
  wtm_at "go"
  refine ⟨sl64 (by simp; (exact zq1 hr)), ?_⟩
  wtm_at "go"
  refine ⟨sl64 (by simp; (exact zq9 hle ha)), ?_⟩
  wtm_at "go"
  by_cases hlen : b.length ≤ rest.length
  · refine ite_t (by simpa using hlen) ?_
    obtain ⟨l', rfl⟩ : ∃ l', l = l' + 1 := ⟨l - 1, by (exact zq542 hfuel hlen)⟩
    have hrne : rest ≠ [] := by rintro rfl; simp at hlen; exact hb hlen
    refine hss_cons ?_
    wtm_at "tup2"
    wtm_at "ab"
    wtm_at "go"
    refine ⟨_, _, _, rfl, sl64 (by simp; (exact zq1 hr)), rfl, idx_last hrne, ?_⟩
    wtm_at "go"
    refine ⟨sl64 (by simp; (exact zq1 hr)), ?_⟩
    wtm_at "go"
    refine ⟨sl64 (by simp; (exact zq9 hle ha)), ?_⟩
    wtm_at "go"
    wtm_at "as2"
    rw [show ((il rest).length : Int) - ((il b).length : Int) = ((rest.length - b.length : Nat) : Int) by simp; (exact zq134 hlen)]
    refine hss_cons ?_
    wtm_at "let"
    wtm_at "ab"
    refine he_call (fs_zsub V d) R ?_ (by wtm_at "mem") rfl (by wtm_at "plain")
    wtm_at "go"
    refine he_call (fs_zscale V d) (R.le (by decide)) ?_ (by wtm_at "mem") rfl (by wtm_at "plain")
    wtm_at "go"
    refine ⟨found, Law.lead b, _, _, rfl, by (exact zq45 hf), szf, kb.getD _, by (exact zq16 hk htk), by (exact zq46 hk), ?_⟩
    wtm_at "go"
    refine he_call (fs_zraise V d) (R.le (by decide)) ?_ (by wtm_at "mem") rfl (by wtm_at "plain")
    refine hls_cons (HN.he (hn_lst ?_))
    wtm_at "go"
    refine ⟨[-Law.lead rest], rest.length - b.length, rfl, by simp, by (exact zq156 hN hn hlen hfuel htl), ?_⟩
    wtm_at "go"
    refine ⟨_, _, rfl, Nat.le_trans (len_zscale _ _) (by (exact zq45 hf)), Nat.le_trans (len_zraise _ _) (by simp; (exact zq568 hle ha hbl hr)), ?_⟩
    wtm_at "as"
    refine hss_cons ?_
    wtm_at "let"
    wtm_at "ab"
    refine he_call (fs_zsub V d) R ?_ (by wtm_at "mem") rfl (by wtm_at "plain")
    wtm_at "go"
    refine he_call (fs_zscale V d) (R.le (by decide)) ?_ (by wtm_at "mem") rfl (by wtm_at "plain")
    wtm_at "go"
    refine ⟨rest, Law.lead b, _, _, rfl, by (exact zq1 hr), szr, kb.getD _, by (exact zq16 hk htk), by (exact zq46 hk), ?_⟩
    wtm_at "go"
    refine he_call (fs_zraise V d) (R.le (by decide)) ?_ (by wtm_at "mem") rfl (by wtm_at "plain")
    wtm_at "go"
    refine he_call (fs_zscale V d) (R.le (by decide)) ?_ (by wtm_at "mem") rfl (by wtm_at "plain")
    wtm_at "go"
    refine ⟨b, Law.lead rest, _, _, rfl, by (exact zq9 hle ha), kb, szr.getD _, by (exact zq46 hk), by (exact zq16 hk htk), ?_⟩
    wtm_at "go"
    refine ⟨Law.zscale b (Law.lead rest), rest.length - b.length, rfl, Nat.le_trans (len_zscale _ _) (by (exact zq421 hle ha)), by (exact zq156 hN hn hlen hfuel htl), ?_⟩
    wtm_at "go"
    refine ⟨_, _, rfl, Nat.le_trans (len_zscale _ _) (by (exact zq1 hr)), Nat.le_trans (len_zraise _ _) (Nat.le_trans (Nat.add_le_add_left (len_zscale _ _) _) (by (exact zq667 hle ha hbl hN hn hlen hfuel htl))), ?_⟩
    wtm_at "as"
    refine hss_one ?_
    refine hs_sub (by wtm_at "ats") (by wtm_at "full") ?_
    wtm_at "go"
    have hps := Law.pstep_len hb hlen
    refine ⟨_, (by wtm_at "set"), (by wtm_at "lc"), l', by (exact zq3), Law.pstep b rest, Law.zsub (Law.zscale found (Law.lead b)) (Law.zraise [-Law.lead rest] (rest.length - b.length)), t + 1, .val (.int (Law.lead rest)), .val (.int ((rest.length - b.length : Nat) : Int)), v3, Law.zsub_norm _ _, by (exact zq617 hle ha hbl hr hlen hps), ?_, by (exact zq155 hfuel hps), ?_, by (exact zq509 htl), ?_, ?_, rfl, ?_⟩
    rotate_right
    · rw [show ((l' + 1 : Nat) : Int) - 1 = (l' : Int) by (exact zq201)]
      rfl
    · refine Nat.le_trans (len_zsub _ _) ?_
      have := len_zscale found (Law.lead b)
      have := len_zraise [-Law.lead rest] (rest.length - b.length)
      simp at this ⊢
      (exact zq688 hle ha hbl hN hr hf hn hlen hfuel htl (by assumption) this)
    · rw [← hpl]
      conv => rhs; unfold Law.ploop
      rw [if_pos hlen]
    · exact (szl_pstep szr kb).mono (by rw [Nat.succ_mul]; (exact zq49))
    · refine (szl_zsub (m := k + t * (k + 1) + k) (szl_zscale szf (kb.getD _)) (szl_zraise fun x hx => ?_)).mono (by rw [Nat.succ_mul]; (exact zq49))
      rw [List.mem_singleton.mp hx]
      exact (Sz.neg (szr.getD _)).mono (by (exact zq412 hk))
  · refine ite_f (by simpa using hlen) ?_
    refine hss_cons ?_
    wtm_at "let"
    wtm_at "ab"
    wtm_at "go"
    have hl101 : l ≤ 101 := by (exact zq648 hN htl hn)
    have hkl : k * l ≤ 5000 * 101 := Nat.mul_le_mul (by (exact zq97 hk)) (by (exact zq94 hl101))
    have hbit : Builtin.Int.intBits (Law.lead b) * l ≤ 5000 * 101 := Nat.mul_le_mul (Nat.le_trans (Sz.bits (kb.getD _)) (by (exact zq97 hk))) (by (exact zq94 hl101))
    refine ⟨_, _, _, rfl, rfl, io_pow (by (exact zq301 hl101)) (by
      have : ((Builtin.Int.intBits (Law.lead b) * l : Nat) : Int) ≤ 505000 := by (exact zq375 hbit)
      rw [Int.natCast_mul] at this
      exact Int.le_trans this (by decide)), ?_⟩
    wtm_at "as"
    rw [show ((l : Int)).toNat = l by simp]
    refine hss_one ?_
    wtm_at "ret"
    wtm_at "go"
    refine he_call (fs_zscale V d) (R.le (by decide)) ?_ (by wtm_at "mem") rfl (by wtm_at "plain")
    wtm_at "go"
    refine ⟨found, _, _, _, rfl, by (exact zq45 hf), szf, (kb.getD _).pow l, by (exact zq16 hk htk), by (exact zq116 hkl), ?_⟩
    wtm_at "go"
    refine he_call (fs_zscale V d) (R.le (by decide)) ?_ (by wtm_at "mem") rfl (by wtm_at "plain")
    wtm_at "go"
    refine ⟨rest, _, _, _, rfl, by (exact zq1 hr), szr, (kb.getD _).pow l, by (exact zq16 hk htk), by (exact zq116 hkl), ?_⟩
    wtm_at "go"
    have := post (il (Law.zscale found (Law.lead b ^ l)))
    rw [← hpl, ploop_end l (by (exact zq30 hlen))] at this
    exact this
end
section
variable {prog : Program} {w : World} {g₀ : Heap} {mg : Str → Option Value} (V : View g₀ mg) (d : Option Addr)
inductive Ph_full_rest  (ts : List PV) (D : Int × Int) (Post : PV → Int × Int → Prop) : Prop
  | mk (a b : List Int) (k : Nat) (q1 : ts = [.list (il a), .list (il b)]) (q2 : b ≠ []) (q3 : Law.Norm a) (q4 : Law.Norm b) (q5 : b.length ≤ a.length) (q6 : a.length ≤ 100) (q7 : SzL k a) (q8 : SzL k b) (q9 : k ≤ 5000) (q10 : Post (.list (il (Law.prest a b))) D) : Ph_full_rest ts D Post
include V
theorem fs_full_rest : FS prog w g₀ mg d "full_rest" 5 Ph_full_rest := by
  refine fs_of d (V.defs _ _ _ _ rfl rfl rfl) (xs := ["a", "b"]) (by wtm_at "ok2") ?_
  rintro A env X ts D Post R ⟨a, b, k, rfl, hb, na, nb, hle, ha, ka, kb, hk, post⟩
  have hbl := List.length_pos_iff.mpr hb
  refine ⟨rfl, [.val (.list (il a)), .val (.list (il b)), .no, .no, .no, .no, .no, .no], (by wtm_at "ini"), ?_⟩
  have hpl := (Law.prest_ok hb nb na hle).2.1
  refine hss_cons ?_
  wtm_at "tup3"
  wtm_at "ab"
  refine he_call (fs_pseudo V d) R ?_ (by wtm_at "mem") rfl (by wtm_at "plain")
  wtm_at "go"
  refine ⟨a, b, k, rfl, hb, na, nb, hle, ha, ka, kb, hk, fun q => ?_⟩
  wtm_at "as3"
  refine hss_cons ?_
  wtm_at "let"
  wtm_at "ab"
  wtm_at "hx"
  wtm_at "hx"
  wtm_at "hx"
  refine he_call (fs_zdegree V d) (R.le (by decide)) ?_ (by wtm_at "mem") rfl (by wtm_at "plain")
  wtm_at "go"
  refine ⟨by simp; (exact zq1 ha), ?_⟩
  refine he_call (fs_zdegree V d) (R.le (by decide)) ?_ (by wtm_at "mem") rfl (by wtm_at "plain")
  wtm_at "go"
  refine ⟨by simp; (exact zq9 hle ha), ?_⟩
  wtm_at "go"
  wtm_at "as"
  rw [show ((il a).length : Int) - 1 - (((il b).length : Int) - 1) + 1 - ((a.length + 1 - b.length : Nat) : Int) = 0 by simp; (exact zq461 hle)]
  refine hss_one ?_
  wtm_at "ret"
  refine HN.he (hn_comp (by wtm_at "scok") (by wtm_at "cap") (hi_list ?_))
  wtm_at "go"
  generalize Law.prest a b = r at hpl post ⊢
  refine comp_map (fun i => .int (r.getD i 0 * Law.lead b ^ (0 : Int).toNat)) (by simp; (exact zq567 hle ha hbl hpl)) (fun i t ht => ?_) ?_
  · obtain ⟨hi, rfl⟩ := il_at ht
    refine ⟨_, .name (by wtm_at "sat") rfl, fun env X => ?_⟩
    wtm_at "hx"
    wtm_at "hx"
    wtm_at "hx"
    refine he_call (fs_zlead V d) (R.le (by decide)) ?_ (by wtm_at "mem") rfl (by wtm_at "plain")
    wtm_at "go"
    refine ⟨by (exact zq9 hle ha), ?_⟩
    wtm_at "go"
    refine ⟨_, _, _, rfl, rfl, io_pow (by decide) (by simp), ?_⟩
    refine ⟨_, _, _, rfl, rfl, io_mul (IntMulOk.of_right (by rw [show (0 : Int).toNat = 0 from rfl, Int.pow_zero]; decide)), rfl, rfl⟩
  · rw [show (il r).length = r.length by simp, range_map_il (fun x => x * Law.lead b ^ (0 : Int).toNat) r]
    rw [show r.map (fun x => x * Law.lead b ^ (0 : Int).toNat) = r by simp]
    exact post

omit V in
theorem unit_sz {K : Nat} {u x : Int} (hu : u * u = 1) (h : Sz K x) : Sz K (u * x) := by
  rcases Law.unit_cases hu with rfl | rfl
  · simpa using h
  · have := h.neg; simpa using this

omit V in
theorem sz_of_bound {K : Nat} {x : Int} {M L : Nat} (h : x.natAbs ≤ (L * M) ^ L) (hK : (L * M) ^ L < 2 ^ K) : Sz K x := Nat.lt_of_le_of_lt h hK

omit V in
theorem mod2_int {n : Nat} (h : 1 ≤ n) : ((n : Int) - 1).fmod 2 = (((n - 1) % 2 : Nat) : Int) := by
  rw [Int.fmod_eq_emod_of_nonneg _ (by decide)]; (exact zq248 h)

inductive RowI (RR : Nat → Nat → Int) (s : Int) (D : Int × Int) (l : Nat) (τ : STs) (D' : Int × Int) : Prop
  | mk (P Q : List Int) (g h s' : Int) (v1 v2 : SV) (q1 : Law.Inv RR s P Q g h s') (q2 : l = Q.length) (q3 : P.length ≤ 6) (q4 : SzL 650 P) (q5 : SzL 650 Q) (q6 : Sz 650 g) (q7 : Sz 650 h) (q8 : D' = D) (q9 : τ = [.val (.list (il P)), .val (.list (il Q)), .val (.int s'), .val (.int g), .val (.int h), v1, v2, .no, .no, .no, .no, .no]) : RowI RR s D l τ D'
inductive Ph_row  (ts : List PV) (D : Int × Int) (Post : PV → Int × Int → Prop) : Prop
  | mk (a b : List Int) (s : Int) (M : Nat) (q1 : ts = [.list (il a), .list (il b), .int s]) (q2 : b ≠ []) (q3 : Law.Norm a) (q4 : Law.Norm b) (q5 : b.length ≤ a.length) (q6 : 2 ≤ a.length) (q7 : a.length ≤ 6) (q8 : s * s = 1) (q9 : (∀ x ∈ a, x.natAbs ≤ 2 ^ M)) (q10 : (∀ x ∈ b, x.natAbs ≤ 2 ^ M)) (q11 : M ≤ 60) (q12 : Post (.int (Law.rloop b.length a b 1 1 s)) D) : Ph_row ts D Post
theorem fs_row : FS prog w g₀ mg d "row_resultant" 6 Ph_row := by
  refine fs_of d (V.defs _ _ _ _ rfl rfl rfl) (xs := ["a", "b", "sign"]) (by wtm_at "ok3") ?_
  rintro A env X ts D Post R ⟨a, b, s, M, rfl, hb, na, nb, hle, h2, h6, hs, sa, sb, hM, post⟩
  have hbl := List.length_pos_iff.mpr hb
  refine ⟨rfl, [.val (.list (il a)), .val (.list (il b)), .val (.int s), .no, .no, .no, .no, .no, .no, .no, .no, .no], (by wtm_at "ini"), ?_⟩
  refine hss_cons ?_
  wtm_at "tup2"
  wtm_at "ab"
  wtm_at "go"
  wtm_at "as2"
  -- sizes
  have hR : ∀ j k, Sz 650 (Law.sub j k (a.length - 1) (b.length - 1) (Law.cf a) (Law.cf b)) := fun j k => by
    have hA : Law.BdR (2 ^ M) (Law.cf a) := fun i => by
      by_cases hi : i < a.length
      · exact sa _ (Law.cf_mem hi)
      · rw [Law.cf_ge (by (exact zq2 hi))]; simp
    have hB : Law.BdR (2 ^ M) (Law.cf b) := fun i => by
      by_cases hi : i < b.length
      · exact sb _ (Law.cf_mem hi)
      · rw [Law.cf_ge (by (exact zq2 hi))]; simp
    refine sz_of_bound (Law.sub_bound hA hB j k 10 (by (exact zq467 hle h2 h6 hbl)) (Nat.pow_pos (by decide)) (by decide)) ?_
    refine Nat.lt_of_le_of_lt (Nat.pow_le_pow_left (Nat.mul_le_mul_left 10 (Nat.pow_le_pow_right (by decide) hM)) 10) ?_
    decide +kernel
  have sza : SzL 650 a := fun x hx => Nat.lt_of_le_of_lt (Nat.le_trans (sa x hx) (Nat.pow_le_pow_right (by decide) hM)) (Nat.pow_lt_pow_right (by decide) (by decide))
  have szb : SzL 650 b := fun x hx => Nat.lt_of_le_of_lt (Nat.le_trans (sb x hx) (Nat.pow_le_pow_right (by decide) hM)) (Nat.pow_lt_pow_right (by decide) (by decide))
  generalize hRR : (fun j k => Law.sub j k (a.length - 1) (b.length - 1) (Law.cf a) (Law.cf b)) = RR
  have hR' : ∀ j k, Sz 650 (RR j k) := fun j k => by rw [← hRR]; exact hR j k
  have I0 : Law.Inv RR s a b 1 1 s := by
    rw [← hRR]
    exact ⟨na, nb, h2, hle, (by decide), (by decide), hs, fun h => absurd h hb, fun _ j k _ _ _ => ⟨1, rfl, by simp [Int.one_pow]⟩, fun _ => by simp [Int.one_pow]⟩
  have hfin := Law.rloop_ok _ I0 (by (exact zq35) : b.length ≤ b.length + 1)
  rw [hfin] at post
  refine hss_cons ?_
  refine hs_while ((RowI RR s D)) b.length
    ⟨a, b, 1, 1, s, .no, .no, I0, rfl, h6, sza, szb, (by show (1 : Nat) < _; exact Nat.one_lt_two_pow (by decide)), (by show (1 : Nat) < _; exact Nat.one_lt_two_pow (by decide)), rfl, rfl⟩ ?_
  rintro l τ D' ⟨P, Q, g, h, s', v1, v2, I, rfl, hP6, szP, szQ, szg, szh, rfl, rfl⟩
  have hPQ := I.le
  have hP2 := I.e1
  refine ⟨_, (by wtm_at "full"), ?_⟩
  wtm_at "hx"
  refine he_call (fs_zdegree V d) (R.le (by decide)) ?_ (by wtm_at "mem") rfl (by wtm_at "plain")
  wtm_at "go"
  refine ⟨by simp; (exact zq29 hP6 hPQ hP2), ?_⟩
  wtm_at "go"
  by_cases hQ : 1 < Q.length
  · refine ite_t (by simp; (exact zq246 hQ)) ?_
    have hQne : Q ≠ [] := by rintro rfl; simp at hQ
    refine hss_cons ?_
    wtm_at "let"
    wtm_at "ab"
    wtm_at "hx"
    refine he_call (fs_zdegree V d) (R.le (by decide)) ?_ (by wtm_at "mem") rfl (by wtm_at "plain")
    wtm_at "go"
    refine ⟨by simp; (exact zq47 hP6 hP2), ?_⟩
    refine he_call (fs_zdegree V d) (R.le (by decide)) ?_ (by wtm_at "mem") rfl (by wtm_at "plain")
    wtm_at "go"
    refine ⟨by simp; (exact zq29 hP6 hPQ hP2), ?_⟩
    wtm_at "go"
    wtm_at "as"
    rw [show ((il P).length : Int) - 1 - (((il Q).length : Int) - 1) = ((P.length - Q.length : Nat) : Int) by simp; (exact zq462 hPQ)]
    -- the sign
    refine hss_cons ?_
    refine HX.mono (N' := fun τ' D'' => D'' = D' ∧ τ' = [.val (.list (il P)), .val (.list (il Q)), .val (.int (if Law.odd2 P Q then -s' else s')), .val (.int g), .val (.int h), .val (.int ((P.length - Q.length : Nat) : Int)), v2, .no, .no, .no, .no, .no]) (R' := Post) ?_ ?_ (fun _ _ h => h)
    · wtm_at "if"
      refine ht_and ?_
      wtm_at "hx"
      wtm_at "hx"
      refine he_call (fs_zdegree V d) (R.le (by decide)) ?_ (by wtm_at "mem") rfl (by wtm_at "plain")
      wtm_at "go"
      refine ⟨by simp; (exact zq47 hP6 hP2), ?_⟩
      wtm_at "go"
      refine ⟨_, _, _, rfl, rfl, io_mod (by decide), ?_⟩
      wtm_at "go"
      have e1 : (((il P).length : Int) - 1).fmod 2 = (((P.length - 1) % 2 : Nat) : Int) := by rw [← mod2_int (by (exact zq314 hP6 hP2))]; simp
      have e2 : (((il Q).length : Int) - 1).fmod 2 = (((Q.length - 1) % 2 : Nat) : Int) := by rw [← mod2_int (by (exact zq247 hQ))]; simp
      rw [e1]
      by_cases p1 : (P.length - 1) % 2 = 1
      · refine ite_t (by rw [p1]; rfl) ?_
        wtm_at "hx"
        wtm_at "hx"
        refine he_call (fs_zdegree V d) (R.le (by decide)) ?_ (by wtm_at "mem") rfl (by wtm_at "plain")
        wtm_at "go"
        refine ⟨by simp; (exact zq29 hP6 hPQ hP2), ?_⟩
        wtm_at "go"
        refine ⟨_, _, _, rfl, rfl, io_mod (by decide), ?_⟩
        wtm_at "go"
        rw [e2]
        by_cases p2 : (Q.length - 1) % 2 = 1
        · refine ite_t (by rw [p2]; rfl) ?_
          refine hss_one ?_
          wtm_at "let"
          wtm_at "ab"
          wtm_at "go"
          wtm_at "as"
          have : Law.odd2 P Q = true := by unfold Law.odd2; rw [p1, p2]; rfl
          rw [this]
          exact ⟨rfl, rfl⟩
        · refine ite_f (by (exact zq22 p2)) ?_
          refine hss_nil ?_
          have : Law.odd2 P Q = false := by unfold Law.odd2; rw [show (Q.length - 1) % 2 = 0 by (exact zq21 p2), Bool.and_comm]; rfl
          rw [this]
          exact ⟨rfl, rfl⟩
      · refine ite_f (by (exact zq22 p1)) ?_
        refine hss_nil ?_
        have : Law.odd2 P Q = false := by unfold Law.odd2; rw [show (P.length - 1) % 2 = 0 by (exact zq21 p1)]; rfl
        rw [this]
        exact ⟨rfl, rfl⟩
    rintro τ' D2 ⟨rfl, rfl⟩
    have J := I.step hQ
    obtain ⟨c1, c2⟩ := I.step2 hQ
    generalize hS : (if Law.odd2 P Q then -s' else s') = s2 at J
    have pr := Law.prest_ok hQne I.nB I.nA hPQ
    refine hss_cons ?_
    wtm_at "let"
    wtm_at "ab"
    refine he_call (fs_full_rest V d) R ?_ (by wtm_at "mem") rfl (by wtm_at "plain")
    wtm_at "go"
    refine ⟨P, Q, 650, rfl, hQne, I.nA, I.nB, hPQ, by (exact zq315 hP6 hP2), szP, szQ, by decide, ?_⟩
    wtm_at "as"
    generalize hgap : P.length - Q.length = gap at *
    have hg6 : gap ≤ 6 := by omega
    have szhg : Sz (650 + (650 * gap + 1)) (g * h ^ gap) := szg.mul (szh.pow gap)
    have hβ : g * h ^ gap ≠ 0 := Int.mul_ne_zero I.g0 (Int.pow_ne_zero I.h0)
    refine hss_cons ?_
    wtm_at "tup2"
    wtm_at "ab"
    wtm_at "go"
    refine he_call (fs_divided V d) (R.le (by decide)) ?_ (by wtm_at "mem") rfl (by wtm_at "plain")
    wtm_at "go"
    have hpw : ∀ {x : Int} {n : Nat}, Sz 650 x → n ≤ 6 → ((Builtin.Int.intBits x : Nat) : Int) * ((n : Nat) : Int) ≤ 2 ^ 27 := fun {x n} hx hn => by
      have h1 : Builtin.Int.intBits x * n ≤ 650 * 6 := Nat.mul_le_mul hx.bits hn
      have h2 : ((Builtin.Int.intBits x * n : Nat) : Int) ≤ 3900 := by (exact zq117 h1)
      rw [Int.natCast_mul] at h2
      exact Int.le_trans h2 (by decide)
    refine ⟨_, _, _, rfl, rfl, io_pow (by (exact zq543 hgap hg6)) (hpw szh hg6), ?_⟩
    rw [show ((gap : Nat) : Int).toNat = gap by simp]
    refine ⟨_, _, _, rfl, rfl, io_mul (mulOk szg (szh.pow gap) (by decide) (by (exact zq544 hgap hg6))), ?_⟩
    wtm_at "go"
    refine ⟨Law.prest P Q, g * h ^ gap, _, rfl, by omega, hβ, szhg, by (exact zq545 hgap hg6), ?_⟩
    wtm_at "go"
    wtm_at "as2"
    refine hss_cons ?_
    wtm_at "let"
    wtm_at "ab"
    refine he_call (fs_zlead V d) (R.le (by decide)) ?_ (by wtm_at "mem") rfl (by wtm_at "plain")
    wtm_at "go"
    refine ⟨by (exact zq29 hP6 hPQ hP2), ?_⟩
    wtm_at "as"
    have szC : SzL 650 ((Law.prest P Q).map fun x => x.fdiv (g * h ^ gap)) := SzL.of_cf fun k => by
      rcases c1 k with e | ⟨u, hu, _, e⟩
      · rw [e]; exact Sz.zero
      · rw [e]; exact unit_sz hu (hR' _ _)
    have szh' : Sz 650 (if 0 < gap then (Law.lead Q ^ gap).fdiv (h ^ (gap - 1)) else h) := by
      rcases c2 with e | ⟨_, u, hu, e⟩
      · rw [e]; exact szh
      · rw [e]; exact unit_sz hu (hR' _ _)
    have fin : ∀ h' : Int, h' = (if 0 < gap then (Law.lead Q ^ gap).fdiv (h ^ (gap - 1)) else h) →
        LtI (RowI RR s D2) Q.length [SV.val (.list (il Q)), SV.val (.list (il (Law.divided (Law.prest P Q) (g * h ^ gap)))), SV.val (.int s2), SV.val (.int (Law.lead Q)), SV.val (.int h'), SV.val (.int ((gap : Nat) : Int)), SV.val (.list (il (Law.prest P Q))), SV.no, SV.no, SV.no, SV.no, SV.no] D2 := fun h' eh => by
      rw [← eh] at J szh'
      exact ⟨_, (by rw [List.length_map]; exact pr.2.1), Q, _, Law.lead Q, h', s2, _, _, J, rfl, by (exact zq458 hP6 hPQ hP2), szQ, szC, szQ.getD _, szh', rfl, rfl⟩
    refine hss_one ?_
    wtm_at "if"
    wtm_at "go"
    by_cases hgp : 0 < gap
    · refine ite_t (by (exact zq547 hgap hg6 hgp)) ?_
      refine hss_one ?_
      wtm_at "let"
      wtm_at "ab"
      wtm_at "hx"
      wtm_at "hx"
      wtm_at "go"
      refine ⟨_, _, _, rfl, rfl, io_pow (by (exact zq548 hgap hg6 hgp)) (hpw (szQ.getD _) hg6), ?_⟩
      wtm_at "go"
      rw [show ((gap : Nat) : Int).toNat = gap by simp, show ((gap : Nat) : Int) - 1 = ((gap - 1 : Nat) : Int) by (exact zq546 hgap hg6 hgp)]
      refine ⟨_, _, _, rfl, rfl, io_pow (by (exact zq17)) (hpw szh (by (exact zq550 hgap hg6 hgp))), ?_⟩
      rw [show ((gap - 1 : Nat) : Int).toNat = gap - 1 by simp]
      refine ⟨_, _, _, rfl, rfl, io_div (Int.pow_ne_zero I.h0) (noPy (szh.pow _) (by (exact zq549 hgap hg6 hgp))), ?_⟩
      wtm_at "as"
      exact fin _ (by rw [if_pos hgp])
    · refine ite_f (by (exact zq551 hgap hg6 hgp)) ?_
      refine hss_nil ?_
      exact fin _ (by rw [if_neg hgp])
  · refine ite_f (by simp; (exact zq322 hQ)) ?_
    have hF := I.fin (by (exact zq323 hQ))
    unfold Law.fin at hF
    rw [← hF] at post
    refine hss_cons ?_
    wtm_at "if"
    wtm_at "hx"
    wtm_at "hx"
    refine HN.he (hn_lst ?_)
    wtm_at "go"
    refine ⟨_, co_eqL (y := []), ?_⟩
    by_cases hQ0 : Q = []
    · refine ite_t hQ0 ?_
      rw [if_pos hQ0] at post
      refine hss_one ?_
      wtm_at "ret"
      wtm_at "go"
      exact post
    · refine ite_f hQ0 ?_
      rw [if_neg hQ0, if_pos (by (exact zq313 hP6 hP2))] at post
      refine hss_nil ?_
      refine hss_cons ?_
      wtm_at "let"
      wtm_at "ab"
      refine he_call (fs_zdegree V d) (R.le (by decide)) ?_ (by wtm_at "mem") rfl (by wtm_at "plain")
      wtm_at "go"
      refine ⟨by simp; (exact zq47 hP6 hP2), ?_⟩
      wtm_at "as"
      rw [show ((il P).length : Int) - 1 = ((P.length - 1 : Nat) : Int) by simp; (exact zq312 hP6 hP2)]
      have hQ1 : 0 < Q.length := List.length_pos_iff.mpr hQ0
      generalize hm : P.length - 1 = m at *
      have hm6 : m ≤ 6 := by (exact zq456 hP6 hP2 hm)
      have hm0 : 0 < m := by (exact zq457 hP6 hP2 hm hm6)
      have hpw : ∀ {x : Int} {n : Nat}, Sz 650 x → n ≤ 6 → ((Builtin.Int.intBits x : Nat) : Int) * ((n : Nat) : Int) ≤ 2 ^ 27 := fun {x n} hx hn => by
        have h1 : Builtin.Int.intBits x * n ≤ 650 * 6 := Nat.mul_le_mul hx.bits hn
        have h2 : ((Builtin.Int.intBits x * n : Nat) : Int) ≤ 3900 := by (exact zq117 h1)
        rw [Int.natCast_mul] at h2
        exact Int.le_trans h2 (by decide)
      refine hss_one ?_
      wtm_at "ret"
      wtm_at "go"
      refine ite_t (by (exact zq428 hm hm6 hm0)) ?_
      wtm_at "go"
      refine ⟨_, _, _, rfl, sl64 (by simp; (exact zq324 hQ hQ1)), rfl, idx_cf (n := 0) rfl hQ1, ?_⟩
      wtm_at "go"
      refine ⟨_, _, _, rfl, rfl, io_pow (by (exact zq429 hm hm6 hm0)) (hpw (szQ.getD _) hm6), ?_⟩
      wtm_at "go"
      rw [show ((m : Nat) : Int).toNat = m by simp, show ((m : Nat) : Int) - 1 = ((m - 1 : Nat) : Int) by (exact zq427 hm hm6 hm0)]
      refine ⟨_, _, _, rfl, rfl, io_pow (by (exact zq17)) (hpw szh (by (exact zq431 hm hm6 hm0))), ?_⟩
      rw [show ((m - 1 : Nat) : Int).toNat = m - 1 by simp]
      refine ⟨_, _, _, rfl, rfl, io_div (Int.pow_ne_zero I.h0) (noPy (szh.pow _) (by (exact zq430 hm hm6 hm0))), ?_⟩
      refine ⟨_, _, _, rfl, rfl, io_mul (IntMulOk.of_left ?_), post⟩
      rcases Law.unit_cases I.ss with e | e <;> rw [e] <;> decide
end
section
variable {prog : Program} {w : World} {g₀ : Heap} {mg : Str → Option Value} (V : View g₀ mg) (d : Option Addr)

theorem gcdAll_nonneg (l : List Int) : 0 ≤ Law.gcdAll l := by
  unfold Law.gcdAll
  rcases List.eq_nil_or_concat l with rfl | ⟨r, x, rfl⟩
  · exact Int.le_refl _
  · simp only [List.concat_eq_append, List.foldl_append, List.foldl_cons, List.foldl_nil]; (exact zq5)
theorem gcdAll_le {l : List Int} (hne : l ≠ []) (hn : Law.Norm l) {M : Nat} (h : ∀ x ∈ l, x.natAbs ≤ 2 ^ M) : (Law.gcdAll l).natAbs ≤ 2 ^ M := by
  have hl := List.length_pos_iff.mpr hne
  have hm : Law.lead l ∈ l := by
    have := Law.cf_mem (l := l) (i := l.length - 1) (by (exact zq7 hl))
    exact this
  refine Nat.le_trans (Nat.le_of_dvd (Int.natAbs_pos.mpr (hn hne)) (Int.natAbs_dvd_natAbs.mpr (Law.gcdAll_dvd l _ hm))) (h _ hm)
theorem divided_le {l : List Int} {c : Int} (hc : c ≠ 0) (hd : ∀ x ∈ l, c ∣ x) {M : Nat} (h : ∀ x ∈ l, x.natAbs ≤ 2 ^ M) : ∀ x ∈ Law.divided l c, x.natAbs ≤ 2 ^ M := fun x hx => by
  obtain ⟨y, hy, rfl⟩ := List.mem_map.mp hx
  obtain ⟨z, hz⟩ := hd y hy
  have h1 := h y hy
  rw [hz, Int.mul_fdiv_cancel_left _ hc]
  rw [hz, Int.natAbs_mul] at h1
  exact Nat.le_trans (Nat.le_mul_of_pos_left _ (Int.natAbs_pos.mpr hc)) h1
theorem sz_le {M : Nat} {x : Int} (h : x.natAbs ≤ 2 ^ M) : Sz (M + 1) x := Nat.lt_of_le_of_lt h (Nat.pow_lt_pow_right (by decide) (by (exact zq3)))
theorem res_sz {a b : List Int} {M : Nat} (ha : a.length ≤ 6) (hb : b.length ≤ 6) (hM : M ≤ 60) (sa : ∀ x ∈ a, x.natAbs ≤ 2 ^ M) (sb : ∀ x ∈ b, x.natAbs ≤ 2 ^ M) : Sz 650 (Law.Res a b) := by
  have hA : Law.BdR (2 ^ M) (Law.cf a) := fun i => by
    by_cases hi : i < a.length
    · exact sa _ (Law.cf_mem hi)
    · rw [Law.cf_ge (by (exact zq2 hi))]; simp
  have hB : Law.BdR (2 ^ M) (Law.cf b) := fun i => by
    by_cases hi : i < b.length
    · exact sb _ (Law.cf_mem hi)
    · rw [Law.cf_ge (by (exact zq2 hi))]; simp
  refine sz_of_bound (Law.sub_bound hA hB 0 0 10 (by (exact zq414 ha hb)) (Nat.pow_pos (by decide)) (by decide)) ?_
  refine Nat.lt_of_le_of_lt (Nat.pow_le_pow_left (Nat.mul_le_mul_left 10 (Nat.pow_le_pow_right (by decide) hM)) 10) ?_
  decide +kernel
theorem powOk {K n : Nat} {x : Int} (hx : Sz K x) (hK : K ≤ 1000) (hn : n ≤ 10) : ((Builtin.Int.intBits x : Nat) : Int) * ((n : Nat) : Int) ≤ 2 ^ 27 := by
  have h1 : Builtin.Int.intBits x * n ≤ 1000 * 10 := Nat.mul_le_mul (Nat.le_trans hx.bits hK) hn
  have h2 : ((Builtin.Int.intBits x * n : Nat) : Int) ≤ 10000 := by (exact zq374 h1)
  rw [Int.natCast_mul] at h2
  exact Int.le_trans h2 (by decide)

inductive ResN (M : Nat) (Post : PV → Int × Int → Prop) (D : Int × Int) (τ' : STs) (D' : Int × Int) : Prop
  | mk (q1 : D' = D) (p q : List Int) (s : Int) (q2 : τ' = [.val (.list (il p)), .val (.list (il q)), .val (.int s), .no, .no, .no, .no, .no, .no, .no]) (q3 : Law.Norm p) (q4 : Law.Norm q) (q5 : p ≠ []) (q6 : q ≠ []) (q7 : q.length ≤ p.length) (q8 : 2 ≤ p.length) (q9 : p.length ≤ 6) (q10 : s * s = 1) (q11 : (∀ x ∈ p, x.natAbs ≤ 2 ^ M)) (q12 : (∀ x ∈ q, x.natAbs ≤ 2 ^ M)) (q13 : Post (.int (Law.gcdAll p ^ (q.length - 1) * Law.gcdAll q ^ (p.length - 1) * Law.rloop q.length (Law.divided p (Law.gcdAll p)) (Law.divided q (Law.gcdAll q)) 1 1 s)) D) : ResN M Post D τ' D'
inductive Ph_resultant  (ts : List PV) (D : Int × Int) (Post : PV → Int × Int → Prop) : Prop
  | mk (a b : List Int) (M : Nat) (q1 : ts = [.list (il a), .list (il b)]) (q2 : Law.Norm a) (q3 : Law.Norm b) (q4 : a.length ≤ 6) (q5 : b.length ≤ 6) (q6 : (a = [] ∨ b = [] ∨ 3 ≤ a.length + b.length)) (q7 : (∀ x ∈ a, x.natAbs ≤ 2 ^ M)) (q8 : (∀ x ∈ b, x.natAbs ≤ 2 ^ M)) (q9 : M ≤ 60) (q10 : Post (.int (Law.resultant a b)) D) : Ph_resultant ts D Post
include V
theorem fs_resultant : FS prog w g₀ mg d "resultant" 7 Ph_resultant := by
  refine fs_of d (V.defs _ _ _ _ rfl rfl rfl) (xs := ["a", "b"]) (by wtm_at "ok2") ?_
  rintro A env X ts D Post R ⟨a, b, M, rfl, na, nb, ha6, hb6, h3, sa, sb, hM, post⟩
  refine ⟨rfl, [.val (.list (il a)), .val (.list (il b)), .no, .no, .no, .no, .no, .no, .no, .no], (by wtm_at "ini"), ?_⟩
  refine hss_cons ?_
  wtm_at "if"
  refine ht_or ?_
  wtm_at "hx"
  wtm_at "hx"
  refine HN.he (hn_lst ?_)
  wtm_at "go"
  refine ⟨_, co_eqL (y := []), ?_⟩
  by_cases ha : a = []
  · refine ite_t ha ?_
    refine hss_one ?_
    wtm_at "ret"
    wtm_at "go"
    unfold Law.resultant at post
    rw [if_pos (.inl ha)] at post
    exact post
  refine ite_f ha ?_
  wtm_at "hx"
  wtm_at "hx"
  refine HN.he (hn_lst ?_)
  wtm_at "go"
  refine ⟨_, co_eqL (y := []), ?_⟩
  by_cases hb : b = []
  · refine ite_t hb ?_
    refine hss_one ?_
    wtm_at "ret"
    wtm_at "go"
    unfold Law.resultant at post
    rw [if_pos (.inr hb)] at post
    exact post
  refine ite_f hb ?_
  refine hss_nil ?_
  have hal := List.length_pos_iff.mpr ha
  have hbl := List.length_pos_iff.mpr hb
  have h3 : 3 ≤ a.length + b.length := h3.elim (fun q => absurd q ha) fun q => q.elim (fun q => absurd q hb) id
  unfold Law.resultant at post
  rw [if_neg (fun q => q.elim ha hb)] at post
  refine hss_cons ?_
  wtm_at "let"
  wtm_at "ab"
  wtm_at "go"
  wtm_at "as"
  refine hss_cons ?_
  refine HX.mono (N' := (ResN M Post D)) (R' := Post) ?_ ?_ (fun _ _ h => h)
  · wtm_at "if"
    wtm_at "hx"
    refine he_call (fs_zdegree V d) (R.le (by decide)) ?_ (by wtm_at "mem") rfl (by wtm_at "plain")
    wtm_at "go"
    refine ⟨by simp; (exact zq20 ha6 hal), ?_⟩
    refine he_call (fs_zdegree V d) (R.le (by decide)) ?_ (by wtm_at "mem") rfl (by wtm_at "plain")
    wtm_at "go"
    refine ⟨by simp; (exact zq20 hb6 hbl), ?_⟩
    wtm_at "go"
    by_cases hlt : a.length < b.length
    · refine ite_t (by simp; (exact zq120 hlt)) ?_
      simp only [if_pos hlt] at post
      refine hss_cons ?_
      wtm_at "tup2"
      wtm_at "ab"
      wtm_at "go"
      wtm_at "as2"
      refine hss_one ?_
      wtm_at "let"
      wtm_at "ab"
      refine he_ifexp ?_
      refine ht_and ?_
      wtm_at "hx"
      wtm_at "hx"
      refine he_call (fs_zdegree V d) (R.le (by decide)) ?_ (by wtm_at "mem") rfl (by wtm_at "plain")
      wtm_at "go"
      refine ⟨by simp; (exact zq20 hb6 hbl), ?_⟩
      wtm_at "go"
      refine ⟨_, _, _, rfl, rfl, io_mod (by decide), ?_⟩
      wtm_at "go"
      have e1 : (((il b).length : Int) - 1).fmod 2 = (((b.length - 1) % 2 : Nat) : Int) := by rw [← mod2_int (by (exact zq98 hb6 hbl))]; simp
      have e2 : (((il a).length : Int) - 1).fmod 2 = (((a.length - 1) % 2 : Nat) : Int) := by rw [← mod2_int (by (exact zq98 ha6 hal))]; simp
      rw [e1]
      by_cases p1 : (b.length - 1) % 2 = 1
      · refine ite_t (by rw [p1]; rfl) ?_
        wtm_at "hx"
        wtm_at "hx"
        refine he_call (fs_zdegree V d) (R.le (by decide)) ?_ (by wtm_at "mem") rfl (by wtm_at "plain")
        wtm_at "go"
        refine ⟨by simp; (exact zq20 ha6 hal), ?_⟩
        wtm_at "go"
        refine ⟨_, _, _, rfl, rfl, io_mod (by decide), ?_⟩
        wtm_at "go"
        rw [e2]
        by_cases p2 : (a.length - 1) % 2 = 1
        · refine ite_t (by rw [p2]; rfl) ?_
          wtm_at "go"
          wtm_at "as"
          have : Law.odd2 b a = true := by unfold Law.odd2; rw [p1, p2]; rfl
          rw [this] at post
          exact ⟨rfl, b, a, -1, rfl, nb, na, hb, ha, by (exact zq28 hlt), by (exact zq54 hb6 hbl h3 hlt), hb6, rfl, sb, sa, post⟩
        · refine ite_f (by (exact zq22 p2)) ?_
          wtm_at "go"
          wtm_at "as"
          have : Law.odd2 b a = false := by unfold Law.odd2; rw [show (a.length - 1) % 2 = 0 by (exact zq21 p2), Bool.and_comm]; rfl
          rw [this] at post
          exact ⟨rfl, b, a, 1, rfl, nb, na, hb, ha, by (exact zq28 hlt), by (exact zq54 hb6 hbl h3 hlt), hb6, rfl, sb, sa, post⟩
      · refine ite_f (by (exact zq22 p1)) ?_
        wtm_at "go"
        wtm_at "as"
        have : Law.odd2 b a = false := by unfold Law.odd2; rw [show (b.length - 1) % 2 = 0 by (exact zq21 p1)]; rfl
        rw [this] at post
        exact ⟨rfl, b, a, 1, rfl, nb, na, hb, ha, by (exact zq28 hlt), by (exact zq54 hb6 hbl h3 hlt), hb6, rfl, sb, sa, post⟩
    · refine ite_f (by simp; (exact zq2 hlt)) ?_
      simp only [if_neg hlt] at post
      refine hss_nil ?_
      exact ⟨rfl, a, b, 1, rfl, na, nb, ha, hb, by (exact zq2 hlt), by (exact zq413 ha6 hal h3 hlt), ha6, rfl, sa, sb, post⟩
  rintro τ' D' ⟨rfl, p, q, s, rfl, np, nq, hp, hq, hle, hp2, hp6, hs, sp, sq, post⟩
  have gp := Law.gcdAll_ne hp np
  have gq := Law.gcdAll_ne hq nq
  have hql := List.length_pos_iff.mpr hq
  have szgp := sz_le (gcdAll_le hp np sp)
  have szgq := sz_le (gcdAll_le hq nq sq)
  refine hss_cons ?_
  wtm_at "tup2"
  wtm_at "ab"
  wtm_at "hx"
  wtm_at "hx"
  refine he_call (fs_zcontent V d) (R.le (by decide)) ?_ (by wtm_at "mem") rfl (by wtm_at "plain")
  wtm_at "go"
  refine he_call (fs_zcontent V d) (R.le (by decide)) ?_ (by wtm_at "mem") rfl (by wtm_at "plain")
  wtm_at "go"
  wtm_at "as2"
  refine hss_cons ?_
  wtm_at "let"
  wtm_at "ab"
  wtm_at "hx"
  wtm_at "hx"
  wtm_at "hx"
  refine he_call (fs_zdegree V d) (R.le (by decide)) ?_ (by wtm_at "mem") rfl (by wtm_at "plain")
  wtm_at "go"
  refine ⟨by simp; (exact zq128 hle hp2 hp6), ?_⟩
  rw [show ((il q).length : Int) - 1 = ((q.length - 1 : Nat) : Int) by simp; (exact zq235 hql)]
  refine ⟨_, _, _, rfl, rfl, io_pow (by (exact zq17)) (powOk szgp (by (exact zq99 hM)) (by (exact zq418 hle hp2 hp6 hql))), ?_⟩
  wtm_at "hx"
  wtm_at "hx"
  refine he_call (fs_zdegree V d) (R.le (by decide)) ?_ (by wtm_at "mem") rfl (by wtm_at "plain")
  wtm_at "go"
  refine ⟨by simp; (exact zq14 hp2 hp6), ?_⟩
  rw [show ((il p).length : Int) - 1 = ((p.length - 1 : Nat) : Int) by simp; (exact zq86 hp2 hp6)]
  refine ⟨_, _, _, rfl, rfl, io_pow (by (exact zq17)) (powOk szgq (by (exact zq99 hM)) (by (exact zq285 hp2 hp6))), ?_⟩
  rw [show ((q.length - 1 : Nat) : Int).toNat = q.length - 1 by simp, show ((p.length - 1 : Nat) : Int).toNat = p.length - 1 by simp]
  have b1 : (M + 1) * (q.length - 1) ≤ 61 * 5 := Nat.mul_le_mul (by (exact zq100 hM)) (by (exact zq419 hle hp2 hp6 hql))
  have b2 : (M + 1) * (p.length - 1) ≤ 61 * 5 := Nat.mul_le_mul (by (exact zq100 hM)) (by (exact zq286 hp2 hp6))
  have szsh := (szgp.pow (q.length - 1)).mul (szgq.pow (p.length - 1))
  refine ⟨_, _, _, rfl, rfl, io_mul (mulOk (szgp.pow _) (szgq.pow _) (by (exact zq108 b1)) (by (exact zq108 b2))), ?_⟩
  wtm_at "as"
  refine hss_one ?_
  wtm_at "ret"
  wtm_at "hx"
  wtm_at "hx"
  refine he_call (fs_row V d) R ?_ (by wtm_at "mem") rfl (by wtm_at "plain")
  refine hls_cons ?_
  refine he_call (fs_divided V d) (R.le (by decide)) ?_ (by wtm_at "mem") rfl (by wtm_at "plain")
  wtm_at "go"
  refine ⟨p, _, _, rfl, by (exact zq14 hp2 hp6), gp, szgp, by (exact zq101 hM), ?_⟩
  refine hls_cons ?_
  refine he_call (fs_divided V d) (R.le (by decide)) ?_ (by wtm_at "mem") rfl (by wtm_at "plain")
  wtm_at "go"
  refine ⟨q, _, _, rfl, by (exact zq128 hle hp2 hp6), gq, szgq, by (exact zq101 hM), ?_⟩
  wtm_at "go"
  have ndp := Law.divided_norm gp (Law.gcdAll_dvd p) np
  have ndq := Law.divided_norm gq (Law.gcdAll_dvd q) nq
  have ldp := Law.divided_len p (Law.gcdAll p)
  have ldq := Law.divided_len q (Law.gcdAll q)
  have dqn : Law.divided q (Law.gcdAll q) ≠ [] := by intro h; exact hq (List.map_eq_nil_iff.mp h)
  have sdp := divided_le gp (Law.gcdAll_dvd p) sp
  have sdq := divided_le gq (Law.gcdAll_dvd q) sq
  have hrr := Law.rloop_res ndp ndq dqn (by (exact zq154 hle ldp ldq)) (by (exact zq113 hp2 hp6 ldp)) s hs
  refine ⟨_, _, s, M, rfl, dqn, ndp, ndq, by (exact zq154 hle ldp ldq), by (exact zq113 hp2 hp6 ldp), by (exact zq114 hp2 hp6 ldp), hs, sdp, sdq, hM, ?_⟩
  have szr : Sz 650 (Law.rloop (Law.divided q (Law.gcdAll q)).length (Law.divided p (Law.gcdAll p)) (Law.divided q (Law.gcdAll q)) 1 1 s) := by
    rw [hrr]; exact unit_sz hs (res_sz (by (exact zq114 hp2 hp6 ldp)) (by (exact zq616 hle hp2 hp6 ldp ldq)) hM sdp sdq)
  refine ⟨_, _, _, rfl, rfl, io_mul (mulOk szsh szr (by (exact zq495 b1 b2)) (by (exact zq162))), ?_⟩
  rw [ldq]
  exact post

omit V in
theorem tri_int {m : Nat} (h : 1 ≤ m) : (((m : Int) * ((m : Int) - 1)).fdiv 2).fmod 2 = ((m * (m - 1) / 2 % 2 : Nat) : Int) := by
  have e : (m : Int) * ((m : Int) - 1) = ((m * (m - 1) : Nat) : Int) := by
    rw [Int.natCast_mul]; congr 1; (exact zq249 h)
  rw [e, Int.fdiv_eq_ediv_of_nonneg _ (by decide), Int.fmod_eq_emod_of_nonneg _ (by decide)]
  (exact zq200)
omit V in
theorem derive_le {l : List Int} {M : Nat} (hl : l.length ≤ 8) (h : ∀ x ∈ l, x.natAbs ≤ 2 ^ M) : ∀ x ∈ Law.derive l, x.natAbs ≤ 2 ^ (M + 3) := fun x hx => by
  unfold Law.derive at hx
  obtain ⟨i, hi, rfl⟩ := List.mem_map.mp hx
  have hi : i < l.length - 1 := by simpa using hi
  have h1 : (l.getD (i + 1) 0).natAbs ≤ 2 ^ M := h _ (Law.cf_mem (by (exact zq402 hi)))
  rw [Int.natAbs_mul, Nat.pow_add]
  exact Nat.mul_le_mul h1 (by omega)
inductive Ph_discriminant  (ts : List PV) (D : Int × Int) (Post : PV → Int × Int → Prop) : Prop
  | mk (f : List Int) (M : Nat) (q1 : ts = [.list (il f)]) (q2 : Law.Norm f) (q3 : 2 ≤ f.length) (q4 : f.length ≤ 6) (q5 : (∀ x ∈ f, x.natAbs ≤ 2 ^ M)) (q6 : M ≤ 50) (q7 : Post (.int (Law.disc f)) D) : Ph_discriminant ts D Post
theorem fs_discriminant : FS prog w g₀ mg d "discriminant" 8 Ph_discriminant := by
  refine fs_of d (V.defs _ _ _ _ rfl rfl rfl) (xs := ["f"]) (by wtm_at "ok1") ?_
  rintro A env X ts D Post R ⟨f, M, rfl, nf, h2, h6, sf, hM, post⟩
  refine ⟨rfl, [.val (.list (il f)), .no, .no, .no, .no, .no, .no, .no], (by wtm_at "ini"), ?_⟩
  have hf : f ≠ [] := by rintro rfl; simp at h2
  refine hss_cons ?_
  wtm_at "let"
  wtm_at "ab"
  refine he_call (fs_zdegree V d) (R.le (by decide)) ?_ (by wtm_at "mem") rfl (by wtm_at "plain")
  wtm_at "go"
  refine ⟨by simp; (exact zq14 h2 h6), ?_⟩
  wtm_at "as"
  rw [show ((il f).length : Int) - 1 = ((f.length - 1 : Nat) : Int) by simp; (exact zq86 h2 h6)]
  refine hss_cons ?_
  wtm_at "if"
  wtm_at "go"
  refine ite_f (by (exact zq287 h2 h6)) ?_
  refine hss_nil ?_
  refine hss_cons ?_
  wtm_at "let"
  wtm_at "ab"
  wtm_at "hx"
  refine he_call (fs_resultant V d) R ?_ (by wtm_at "mem") rfl (by wtm_at "plain")
  wtm_at "go"
  refine he_call (fs_zderive V d) (R.le (by decide)) ?_ (by wtm_at "mem") rfl (by wtm_at "plain")
  wtm_at "go"
  refine ⟨f, M + 1, rfl, by (exact zq14 h2 h6), fun x hx => sz_le (sf x hx), by (exact zq309 hM), ?_⟩
  wtm_at "go"
  refine ⟨f, Law.derive f, M + 3, rfl, nf, Law.derive_norm nf, h6, by rw [Law.derive_len]; (exact zq87 h2 h6), by rw [Law.derive_len]; omega, fun x hx => Nat.le_trans (sf x hx) (Nat.pow_le_pow_right (by decide) (by (exact zq36))), derive_le (by (exact zq88 h2 h6)) sf, by (exact zq96 hM), ?_⟩
  refine he_call (fs_zlead V d) (R.le (by decide)) ?_ (by wtm_at "mem") rfl (by wtm_at "plain")
  wtm_at "go"
  refine ⟨by (exact zq14 h2 h6), ?_⟩
  have szl : Sz (M + 1) (Law.lead f) := sz_le (sf _ (Law.cf_mem (l := f) (i := f.length - 1) (by (exact zq284 h2 h6))))
  refine ⟨_, _, _, rfl, rfl, io_div (nf hf) (noPy szl (by (exact zq310 hM))), ?_⟩
  wtm_at "as"
  refine hss_one ?_
  wtm_at "ret"
  refine he_ifexp ?_
  wtm_at "hx"
  wtm_at "hx"
  wtm_at "hx"
  wtm_at "hx"
  wtm_at "hx"
  wtm_at "go"
  have szm : Sz 10 ((f.length - 1 : Nat) : Int) := by show _ < _; simp; (exact zq283 h2 h6)
  refine ⟨_, _, _, rfl, rfl, io_mul (mulOk (a := 10) (b := 10) szm (by show _ < _; simp; (exact zq282 h2 h6)) (by decide) (by decide)), ?_⟩
  wtm_at "go"
  refine ⟨_, _, _, rfl, rfl, io_div (by decide) (noPy (k := 10) (by show _ < _; decide) (by decide)), ?_⟩
  wtm_at "go"
  refine ⟨_, _, _, rfl, rfl, io_mod (by decide), ?_⟩
  wtm_at "go"
  rw [tri_int (by (exact zq280 h2 h6))]
  unfold Law.disc at post
  by_cases hc : (f.length - 1) * (f.length - 1 - 1) / 2 % 2 = 1
  · refine ite_t (by rw [hc]; rfl) ?_
    rw [if_pos hc] at post
    wtm_at "go"
    exact post
  · refine ite_f (by (exact zq319 hc)) ?_
    rw [if_neg hc] at post
    wtm_at "go"
    exact post
end
section
variable {prog : Program} {w : World} {g₀ : Heap} {mg : Str → Option Value} (V : View g₀ mg) (d : Option Addr)

/-- the program's inverse, mod p -/
theorem inv_step {f q n p N : Nat} (hp : 0 < p) (h : f * q ^ n % p = N % p) (hn : 0 < n) :
    (if n % 2 = 1 then f * q % p else f) * (q * q % p) ^ (n / 2) % p = N % p := by
  have e : (q * q % p) ^ (n / 2) % p = (q * q) ^ (n / 2) % p := by rw [← Nat.pow_mod]
  by_cases ho : n % 2 = 1
  · rw [if_pos ho, ← h, Nat.mul_mod, e, Nat.mod_mod, ← Nat.mul_mod, ← Nat.pow_two, ← Nat.pow_mul]
    congr 1
    obtain ⟨m, rfl⟩ : ∃ m, n = 2 * m + 1 := ⟨n / 2, by (exact zq289 ho)⟩
    rw [show (2 * m + 1) / 2 = m by (exact zq234 ho), Nat.pow_succ]
    grind
  · rw [if_neg ho, ← h, Nat.mul_mod, e, ← Nat.mul_mod, ← Nat.pow_two, ← Nat.pow_mul]
    congr 1
    obtain ⟨m, rfl⟩ : ∃ m, n = 2 * m := ⟨n / 2, by (exact zq327 ho)⟩
    rw [show 2 * m / 2 = m by (exact zq213)]

theorem fmodN (a p : Nat) : ((a : Int)).fmod (p : Int) = ((a % p : Nat) : Int) := by
  rw [Int.fmod_eq_emod_of_nonneg _ (by (exact zq5))]; (exact zq339)
theorem szN {k a : Nat} (h : a < 2 ^ k) : Sz k (a : Int) := by unfold Sz; simpa using h

inductive Ph_derived  (ts : List PV) (D : Int × Int) (Post : PV → Int × Int → Prop) : Prop
  | mk (l : List Int) (m : Nat) (q1 : ts = [.list (il l)]) (q2 : l.length ≤ 65536) (q3 : SzL m l) (q4 : m ≤ 1000000) (q5 : Post (.list (il (Law.derive l))) D) : Ph_derived ts D Post
include V
theorem fs_derived : FS prog w g₀ mg d "_law_derived" 1 Ph_derived := by
  have h2 := V.enum
  refine fs_of d (V.defs _ _ _ _ rfl rfl rfl) (xs := ["one"]) (by wtm_at "ok1") ?_
  rintro A env X ts D Post R ⟨l, m, rfl, hl, hm, hm', post⟩
  refine ⟨rfl, [.val (.list (il l)), .no], (by wtm_at "ini"), ?_⟩
  refine hss_one ?_
  wtm_at "ret"
  refine HN.he (hn_from (n := 1) (HN.he (hn_comp (by wtm_at "scok") (by wtm_at "cap") (hi_enum ?_ (by wtm_at "mem") h2 (by wtm_at "plain")))) (fun _ _ => by with_unfolding_all rfl))
  wtm_at "go"
  have hn : (enums (il l)).length = l.length := by simp [enums]
  refine comp_map (fun i => .int (l.getD i 0 * (i : Int))) (by rw [hn]; exact hl) (fun i t ht => ?_) ?_
  · obtain ⟨hi, rfl⟩ := enums_at ht
    refine ⟨_, .two (by wtm_at "sat") rfl (by wtm_at "sat") rfl, fun env X => ?_⟩
    wtm_at "go"
    exact ⟨_, _, _, rfl, rfl, io_mul (mulOk (a := 20) (by show _ < _; simp; (exact zq143 hl hn hi)) (hm.getD i) (by decide) hm'), by rw [Int.mul_comm], rfl⟩
  · rw [hn]
    refine ⟨_, rfl, by simp; exact hl, ?_, ?_⟩
    · wtm_at "go"
      exact ⟨rfl, rfl⟩
    · rw [derive_drop]; exact post

inductive InvI (x p : Nat) (D : Int × Int) (n : Nat) (τ : STs) (D' : Int × Int) : Prop
  | mk (f q : Nat) (q1 : f < p) (q2 : q < p) (q3 : f * q ^ n % p = x ^ (p - 2) % p) (q4 : D' = D) (q5 : τ = [.val (.int x), .val (.int p), .val (.int f), .val (.int q), .val (.int n)]) : InvI x p D n τ D'
inductive Ph_inverse  (ts : List PV) (D : Int × Int) (Post : PV → Int × Int → Prop) : Prop
  | mk (x p : Nat) (q1 : ts = [.int x, .int p]) (q2 : 2 ≤ p) (q3 : p < 2 ^ 30) (q4 : ∀ r : Nat, r < p → r % p = x ^ (p - 2) % p → Post (.int r) D) : Ph_inverse ts D Post
theorem fs_inverse : FS prog w g₀ mg d "_law_inverse" 1 Ph_inverse := by
  refine fs_of d (V.defs _ _ _ _ rfl rfl rfl) (xs := ["number", "prime"]) (by wtm_at "ok2") ?_
  rintro A env X ts D Post R ⟨x, p, rfl, hp2, hp, post⟩
  refine ⟨rfl, [.val (.int x), .val (.int p), .no, .no, .no], (by wtm_at "ini"), ?_⟩
  have hp0 : (p : Int) ≠ 0 := by (exact zq359 hp2 hp)
  refine hss_cons ?_
  wtm_at "tup3"
  wtm_at "ab"
  wtm_at "go"
  refine ⟨_, _, _, rfl, rfl, io_mod hp0, ?_⟩
  wtm_at "go"
  wtm_at "as3"
  rw [fmodN, show (p : Int) - 2 = ((p - 2 : Nat) : Int) by (exact zq358 hp2 hp)]
  refine hss_cons ?_
  refine hs_while ((InvI x p D)) (p - 2)
    ⟨1, x % p, by (exact zq360 hp2 hp), Nat.mod_lt _ (by (exact zq24 hp2 hp)), by rw [Nat.one_mul, ← Nat.pow_mod], rfl, rfl⟩ ?_
  rintro n τ D' ⟨f, q, hf, hq, hinv, rfl, rfl⟩
  refine ⟨_, (by wtm_at "full"), ?_⟩
  wtm_at "go"
  by_cases hn : 0 < n
  · refine ite_t (by (exact zq236 hn)) ?_
    have e2 : ((n : Int)).fmod 2 = ((n % 2 : Nat) : Int) := fmodN n 2
    refine hss_cons ?_
    refine HX.mono (N' := fun τ' D'' => D'' = D' ∧ τ' = [.val (.int x), .val (.int p), .val (.int ((if n % 2 = 1 then f * q % p else f : Nat) : Int)), .val (.int q), .val (.int n)]) (R' := Post) ?_ ?_ (fun _ _ h => h)
    · wtm_at "if"
      wtm_at "go"
      refine ⟨_, _, _, rfl, rfl, io_mod (by decide), ?_⟩
      wtm_at "go"
      rw [e2]
      by_cases ho : n % 2 = 1
      · refine ite_t (by rw [ho]; rfl) ?_
        refine hss_one ?_
        wtm_at "let"
        wtm_at "ab"
        wtm_at "go"
        refine ⟨_, _, _, rfl, rfl, io_mul (mulOk (szN (k := 30) (by (exact zq31 hp2 hp hf))) (szN (k := 30) (by (exact zq31 hp2 hp hq))) (by decide) (by decide)), ?_⟩
        wtm_at "go"
        refine ⟨_, _, _, rfl, rfl, io_mod hp0, ?_⟩
        wtm_at "as"
        rw [if_pos ho, ← Int.natCast_mul, fmodN]
        exact ⟨rfl, rfl⟩
      · refine ite_f (by (exact zq334 e2 ho)) ?_
        refine hss_nil ?_
        rw [if_neg ho]
        exact ⟨rfl, rfl⟩
    rintro τ' D2 ⟨rfl, rfl⟩
    refine hss_one ?_
    wtm_at "tup2"
    wtm_at "ab"
    wtm_at "go"
    refine ⟨_, _, _, rfl, rfl, io_mul (mulOk (szN (k := 30) (by (exact zq31 hp2 hp hq))) (szN (k := 30) (by (exact zq31 hp2 hp hq))) (by decide) (by decide)), ?_⟩
    wtm_at "go"
    refine ⟨_, _, _, rfl, rfl, io_mod hp0, ?_⟩
    wtm_at "go"
    refine ⟨_, _, _, rfl, rfl, io_div (by decide) (noPy (k := 10) (by show _ < _; decide) (by decide)), ?_⟩
    wtm_at "go"
    wtm_at "as2"
    rw [← Int.natCast_mul, fmodN, show ((n : Int)).fdiv 2 = ((n / 2 : Nat) : Int) by rw [Int.fdiv_eq_ediv_of_nonneg _ (by decide)]; (exact zq203)]
    refine ⟨n / 2, by (exact zq332 hn e2), _, q * q % p, ?_, Nat.mod_lt _ (by (exact zq24 hp2 hp)), inv_step (by (exact zq24 hp2 hp)) hinv hn, rfl, rfl⟩
    split
    · exact Nat.mod_lt _ (by (exact zq24 hp2 hp))
    · exact hf
  · refine ite_f (by (exact zq321 hn)) ?_
    refine hss_one ?_
    wtm_at "ret"
    wtm_at "go"
    have : n = 0 := by (exact zq320 hn)
    subst this
    rw [Nat.pow_zero, Nat.mul_one] at hinv
    exact post f hf hinv

inductive Ph_sylvester  (ts : List PV) (D : Int × Int) (Post : PV → Int × Int → Prop) : Prop
  | mk (a b : List Int) (q1 : ts = [.list (il a), .list (il b)]) (q2 : a ≠ []) (q3 : b ≠ []) (q4 : a.length ≤ 100) (q5 : b.length ≤ 100) (q6 : Post (.list (((List.range (b.length - 1)).map fun i => PV.list (il (List.replicate i 0 ++ a.reverse ++ List.replicate (b.length - 1 - 1 - i) 0))) ++
      ((List.range (a.length - 1)).map fun i => PV.list (il (List.replicate i 0 ++ b.reverse ++ List.replicate (a.length - 1 - 1 - i) 0))))) D) : Ph_sylvester ts D Post
theorem fs_sylvester : FS prog w g₀ mg d "sylvester" 2 Ph_sylvester := by
  have h1 := V.range
  refine fs_of d (V.defs _ _ _ _ rfl rfl rfl) (xs := ["a", "b"]) (by wtm_at "ok2") ?_
  rintro A env X ts D Post R ⟨a, b, rfl, ha, hb, hla, hlb, post⟩
  have hal := List.length_pos_iff.mpr ha
  have hbl := List.length_pos_iff.mpr hb
  refine ⟨rfl, [.val (.list (il a)), .val (.list (il b)), .no, .no, .no, .no, .no, .no], (by wtm_at "ini"), ?_⟩
  refine hss_cons ?_
  wtm_at "tup2"
  wtm_at "ab"
  wtm_at "hx"
  wtm_at "hx"
  refine he_call (fs_zdegree V d) R ?_ (by wtm_at "mem") rfl (by wtm_at "plain")
  wtm_at "go"
  refine ⟨by simp; (exact zq8 hla hal), ?_⟩
  wtm_at "hx"
  refine he_call (fs_zdegree V d) R ?_ (by wtm_at "mem") rfl (by wtm_at "plain")
  wtm_at "go"
  refine ⟨by simp; (exact zq8 hlb hbl), ?_⟩
  wtm_at "go"
  wtm_at "as2"
  rw [show ((il a).length : Int) - 1 = ((a.length - 1 : Nat) : Int) by simp; (exact zq19 hla hal), show ((il b).length : Int) - 1 = ((b.length - 1 : Nat) : Int) by simp; (exact zq19 hlb hbl)]
  generalize hm : a.length - 1 = m at *
  generalize hn : b.length - 1 = n at *
  refine hss_cons ?_
  refine hs_assign_own ?_
  wtm_at "of"
  refine hn_lst ?_
  wtm_at "go"
  refine ⟨fun x hx => (nomatch hx), ?_⟩
  wtm_at "as"
  -- a row
  have row : ∀ {l : List Int} {i M : Nat}, l.length ≤ 100 → i < M → M ≤ 100 → True := fun _ _ _ => trivial
  refine hss_cons ?_
  refine hs_for (his_base (by wtm_at "base") fun X => hi_range1 ?_ (by wtm_at "mem") h1 (by wtm_at "plain"))
  wtm_at "go"
  refine ⟨by (exact zq130 hn), by (exact zq451 hlb hbl hn), ?_⟩
  refine ⟨fun i τ D' => ∃ v, D' = D ∧ τ = [.val (.list (il a)), .val (.list (il b)), .val (.int m), .val (.int n), .own ((List.range i).map fun i => PV.list (il (List.replicate i 0 ++ a.reverse ++ List.replicate (n - 1 - i) 0))), v, .no, .no], ⟨.no, rfl, rfl⟩, ?_, ?_⟩
  · rintro i t τ D' ht ⟨v, rfl, rfl⟩
    obtain ⟨hi, rfl⟩ := upto_at ht
    have hi : i < n := by (exact zq391 hi)
    refine ⟨_, .name (by wtm_at "set") (.inl rfl), fun X => ?_⟩
    refine hss_one ?_
    refine hs_append (by wtm_at "ats") (sl64 (by simp; (exact zq560 hlb hbl hn hi))) ?_ rfl
    wtm_at "ab"
    refine HN.he (hn_cat (HN.he (hn_cat (HN.he (hn_mul1 ?_)))))
    wtm_at "go"
    refine ⟨by (exact zq559 hlb hbl hn hi), by (exact zq71), ?_⟩
    refine HN.he (hn_rev ?_ (fun _ _ => by with_unfolding_all rfl))
    wtm_at "go"
    refine ⟨by simp; (exact zq8 hla hal), ?_, ?_⟩
    · wtm_at "go"
      exact ⟨rfl, rfl⟩
    refine ⟨_, _, rfl, rfl, sl64 (by simp; (exact zq613 hla hlb hal hbl hn hi)), ?_⟩
    refine HN.he (hn_mul1 ?_)
    wtm_at "go"
    refine ⟨by (exact zq580 hlb hbl hn), by (exact zq132 hi), ?_⟩
    refine ⟨_, _, rfl, rfl, sl64 (by simp; (exact zq614 hla hlb hal hbl hn hi)), ?_⟩
    refine ⟨_, (by wtm_at "set"), .val (.int i), rfl, ?_⟩
    rw [show (0 : Int) + (i : Int) = (i : Int) by (exact zq11), show ((i : Int)).toNat = i by simp, show ((n : Int) - 1 - (i : Int)).toNat = n - 1 - i by (exact zq133 hi), List.range_succ, List.map_append]
    congr 5
    simp [il]
  · rintro τ D' ⟨v, rfl, rfl⟩
    rw [show (il (upto 0 (n : Int))).length = n by rw [upto_len]; (exact zq131 hn)]
    generalize hL1 : (List.range n).map (fun i => PV.list (il (List.replicate i 0 ++ a.reverse ++ List.replicate (n - 1 - i) 0))) = L1 at post ⊢
    have hL1n : L1.length = n := by rw [← hL1]; simp
    refine hss_cons ?_
    refine hs_for (his_base (by wtm_at "base") fun X => hi_range1 ?_ (by wtm_at "mem") h1 (by wtm_at "plain"))
    wtm_at "go"
    refine ⟨by (exact zq130 hm), by (exact zq561 hla hlb hal hbl hm), ?_⟩
    refine ⟨fun i τ D'' => ∃ v, D'' = D' ∧ τ = [.val (.list (il a)), .val (.list (il b)), .val (.int m), .val (.int n), .own (L1 ++ (List.range i).map fun i => PV.list (il (List.replicate i 0 ++ b.reverse ++ List.replicate (m - 1 - i) 0))), v, .no, .no], ⟨v, rfl, by simp⟩, ?_, ?_⟩
    · rintro i t τ D' ht ⟨v, rfl, rfl⟩
      obtain ⟨hi, rfl⟩ := upto_at ht
      have hi : i < m := by (exact zq571 hm hi)
      refine ⟨_, .name (by wtm_at "set") (.inl rfl), fun X => ?_⟩
      refine hss_one ?_
      refine hs_append (by wtm_at "ats") (sl64 (by simp; (exact zq671 hla hlb hal hbl hm hn hL1n hi))) ?_ rfl
      wtm_at "ab"
      refine HN.he (hn_cat (HN.he (hn_cat (HN.he (hn_mul1 ?_)))))
      wtm_at "go"
      refine ⟨by (exact zq612 hla hlb hal hbl hm hi), by (exact zq71), ?_⟩
      refine HN.he (hn_rev ?_ (fun _ _ => by with_unfolding_all rfl))
      wtm_at "go"
      refine ⟨by simp; (exact zq8 hlb hbl), ?_, ?_⟩
      · wtm_at "go"
        exact ⟨rfl, rfl⟩
      refine ⟨_, _, rfl, rfl, sl64 (by simp; (exact zq670 hla hlb hal hbl hm hn hL1n hi)), ?_⟩
      refine HN.he (hn_mul1 ?_)
      wtm_at "go"
      refine ⟨by (exact zq631 hla hlb hal hbl hm), by (exact zq132 hi), ?_⟩
      refine ⟨_, _, rfl, rfl, sl64 (by simp; (exact zq681 hla hlb hal hbl hm hn hL1n hi)), ?_⟩
      refine ⟨_, (by wtm_at "set"), .val (.int i), rfl, ?_⟩
      rw [show (0 : Int) + (i : Int) = (i : Int) by (exact zq11), show ((i : Int)).toNat = i by simp, show ((m : Int) - 1 - (i : Int)).toNat = m - 1 - i by (exact zq133 hi), List.range_succ, List.map_append, ← List.append_assoc]
      congr 5
      simp [il]
    · rintro τ D' ⟨v, rfl, rfl⟩
      rw [show (il (upto 0 (m : Int))).length = m by rw [upto_len]; (exact zq131 hm)]
      refine hss_one ?_
      wtm_at "ret"
      wtm_at "go"
      exact post

omit V in
theorem set_cf {l : List Int} {i : Nat} {x : Int} (h : i < l.length) (j : Nat) : Law.cf (l.set i x) j = if j = i then x else Law.cf l j := by
  unfold Law.cf
  simp only [List.getD_eq_getElem?_getD, List.getElem?_set]
  by_cases q : i = j
  · subst q; simp [h]
  · rw [if_neg q, if_neg (fun e => q e.symm)]
end
section
variable {prog : Program} {w : World} {g₀ : Heap} {mg : Str → Option Value} (V : View g₀ mg) (d : Option Addr)

noncomputable def lmul (a b : List Int) : List Int := (List.range (a.length + b.length - 1)).map fun i => Law.cm (Law.cf b) (Law.cf a) 0 a.length i
theorem eq_of_cf {l l' : List Int} (hl : l.length = l'.length) (h : ∀ i, Law.cf l i = Law.cf l' i) : l = l' := by
  apply List.ext_getElem hl
  intro i h1 h2
  have := h i
  simpa [Law.cf, h1, h2] using this
theorem cm_zero {B : Law.Row} {q : Nat → Int} {n i : Nat} (hB : ∀ j, n ≤ j → B j = 0) : ∀ K, n + K ≤ i + 1 → Law.cm B q 0 K i = 0
  | 0, _ => rfl
  | K + 1, h => by
    show Law.cm B q 0 K i + q K * Law.sh (0 + K) B i = 0
    rw [cm_zero hB K (by (exact zq511 h))]
    unfold Law.sh
    rw [if_neg (by (exact zq569 h)), hB _ (by (exact zq513 h))]; simp
theorem lmul_cf {a b : List Int} (ha : a ≠ []) (hb : b ≠ []) (i : Nat) : Law.cf (lmul a b) i = Law.cm (Law.cf b) (Law.cf a) 0 a.length i := by
  unfold lmul
  rw [Law.cf_range]
  have hal := List.length_pos_iff.mpr ha
  have hbl := List.length_pos_iff.mpr hb
  split
  · rfl
  · exact (cm_zero (n := b.length) (fun j hj => Law.cf_ge hj) _ (by (exact zq593 (by assumption)))).symm
theorem idx_nat {l : List Int} {n : Nat} (h : n < l.length) : idx (il l) (n : Int) = some (.int (Law.cf l n)) := idx_cf rfl h

inductive MulI (a b : List Int) (D : Int × Int) (i : Nat) (τ : STs) (D' : Int × Int) : Prop
  | mk (F : List Int) (v1 v2 v3 v4 : SV) (q1 : F.length = a.length + b.length - 1) (q2 : (∀ k, Law.cf F k = Law.cm (Law.cf b) (Law.cf a) 0 i k)) (q3 : D' = D) (q4 : τ = [.val (.list (il a)), .val (.list (il b)), .own (il F), v1, v2, v3, v4, .no, .no]) : MulI a b D i τ D'
inductive MulJ (a b : List Int) (i : Nat) (D' : Int × Int) (j : Nat) (τ : STs) (D'' : Int × Int) : Prop
  | mk (F : List Int) (v3 v4 : SV) (q1 : F.length = a.length + b.length - 1) (q2 : (∀ k, Law.cf F k = Law.cm (Law.cf b) (Law.cf a) 0 i k + Law.cf a i * (if i ≤ k ∧ k < i + j then Law.cf b (k - i) else 0))) (q3 : D'' = D') (q4 : τ = [.val (.list (il a)), .val (.list (il b)), .own (il F), .val (.int i), .val (.int (a.getD i 0)), v3, v4, .no, .no]) : MulJ a b i D' j τ D''
inductive Ph_mul  (ts : List PV) (D : Int × Int) (Post : PV → Int × Int → Prop) : Prop
  | mk (a b : List Int) (m n : Nat) (q1 : ts = [.list (il a), .list (il b)]) (q2 : a ≠ []) (q3 : b ≠ []) (q4 : a.length ≤ 100) (q5 : b.length ≤ 100) (q6 : SzL m a) (q7 : SzL n b) (q8 : m ≤ 1000000) (q9 : n ≤ 1000000) (q10 : Post (.list (il (lmul a b))) D) : Ph_mul ts D Post
include V
theorem fs_mul : FS prog w g₀ mg d "_law_mul" 1 Ph_mul := by
  have h1 := V.len
  have h2 := V.enum
  refine fs_of d (V.defs _ _ _ _ rfl rfl rfl) (xs := ["one", "other"]) (by wtm_at "ok2") ?_
  rintro A env X ts D Post R ⟨a, b, m, n, rfl, ha, hb, hla, hlb, sa, sb, hm, hn, post⟩
  have hal := List.length_pos_iff.mpr ha
  have hbl := List.length_pos_iff.mpr hb
  refine ⟨rfl, [.val (.list (il a)), .val (.list (il b)), .no, .no, .no, .no, .no, .no, .no], (by wtm_at "ini"), ?_⟩
  refine hss_cons ?_
  wtm_at "if"
  refine ht_or ?_
  wtm_at "hx"
  wtm_at "hx"
  refine HN.he (hn_lst ?_)
  wtm_at "go"
  refine ⟨_, co_eqL (y := []), ?_⟩
  refine ite_f ha ?_
  wtm_at "hx"
  wtm_at "hx"
  refine HN.he (hn_lst ?_)
  wtm_at "go"
  refine ⟨_, co_eqL (y := []), ?_⟩
  refine ite_f hb ?_
  refine hss_nil ?_
  refine hss_cons ?_
  refine hs_assign_own ?_
  wtm_at "of"
  refine hn_mul1 ?_
  wtm_at "go"
  refine ⟨sl64 (by simp; (exact zq8 hla hal)), ?_⟩
  wtm_at "go"
  refine ⟨sl64 (by simp; (exact zq8 hlb hbl)), ?_⟩
  wtm_at "go"
  refine ⟨by simp; (exact zq409 hla hlb hal hbl), by simp; (exact zq410 hla hlb hal hbl), ?_⟩
  have hN : (((il a).length : Int) + ((il b).length : Int) - 1).toNat = a.length + b.length - 1 := by simp; (exact zq411 hla hlb hal hbl)
  rw [hN]
  refine ⟨_, rfl, fun x hx => (by rw [List.eq_of_mem_replicate hx]; trivial), ?_⟩
  wtm_at "as"
  have start : List.replicate (a.length + b.length - 1) (PV.int 0) = il (List.replicate (a.length + b.length - 1) 0) := by simp [il]
  rw [start]
  refine hss_cons ?_
  have he1 : (enums (il a)).length = a.length := by simp [enums]
  have he2 : (enums (il b)).length = b.length := by simp [enums]
  refine hs_for (his_base (by wtm_at "base") fun X => hi_enum ?_ (by wtm_at "mem") h2 (by wtm_at "plain"))
  wtm_at "go"
  refine ⟨(MulI a b D),
    ⟨List.replicate (a.length + b.length - 1) 0, .no, .no, .no, .no, by simp, fun k => by
      unfold Law.cf
      simp only [List.getD_eq_getElem?_getD, List.getElem?_replicate]
      split <;> rfl, rfl, rfl⟩, ?_, ?_⟩
  · rintro i t τ D' ht ⟨F, v1, v2, v3, v4, hF, hcf, rfl, rfl⟩
    obtain ⟨hi, rfl⟩ := enums_at ht
    refine ⟨_, .two (by wtm_at "set") (.inl rfl) (by wtm_at "set") (.inl rfl), fun X => ?_⟩
    refine hss_one ?_
    refine hs_for (his_base (by wtm_at "base") fun X => hi_enum ?_ (by wtm_at "mem") h2 (by wtm_at "plain"))
    wtm_at "go"
    refine ⟨(MulJ a b i D'),
      ⟨F, v3, v4, hF, fun k => by rw [hcf k, if_neg (by (exact zq107))]; simp, rfl, rfl⟩, ?_, ?_⟩
    · rintro j t τ D' ht ⟨F, v3, v4, hF, hcf, rfl, rfl⟩
      obtain ⟨hj, rfl⟩ := enums_at ht
      refine ⟨_, .two (by wtm_at "set") (.inl rfl) (by wtm_at "set") (.inl rfl), fun X => ?_⟩
      refine hss_one ?_
      refine hs_set (by wtm_at "ats") (by wtm_at "full") ?_
      wtm_at "af"
      wtm_at "go"
      have hij : i + j < F.length := by (exact zq687 he1 he2 (by assumption) hi hF hj)
      have e0 : (i : Int) + (j : Int) = ((i + j : Nat) : Int) := by (exact zq48)
      rw [e0]
      refine ⟨_, _, _, rfl, sl64 (by simp; (exact zq665 hla hlb hal hbl he1 he2 (by assumption) hF)), rfl, idx_nat hij, ?_⟩
      wtm_at "go"
      refine ⟨_, _, _, rfl, rfl, io_mul (mulOk (sa.getD i) (sb.getD j) hm hn), ?_⟩
      wtm_at "go"
      refine ⟨trivial, ?_⟩
      wtm_at "go"
      rw [e0]
      refine ⟨by (exact zq672 hla hlb hal hbl he1 he2 hi hj), by rw [List.length_map]; (exact zq524 hij), by omega, _, (by wtm_at "set"), rfl, F.set (i + j) (Law.cf F (i + j) + a.getD i 0 * b.getD j 0), .val (.int j), .val (.int (b.getD j 0)), by rw [List.length_set]; exact hF, fun k => ?_, rfl, ?_⟩
      rotate_right
      · rw [show (((i + j : Nat) : Int)).toNat = i + j from rfl, show (il F).set (i + j) (PV.int (Law.cf F (i + j) + a.getD i 0 * b.getD j 0)) = il (F.set (i + j) (Law.cf F (i + j) + a.getD i 0 * b.getD j 0)) by simp [il]]; rfl
      · rw [set_cf hij]
        by_cases hk : k = i + j
        · subst hk
          rw [if_pos rfl, hcf, if_neg (by (exact zq106)), if_pos (by (exact zq105)), show i + j - i = j by (exact zq50)]
          show _ + Law.cf a i * Law.cf b j = _
          grind
        · rw [if_neg hk, hcf k]
          by_cases hk2 : i ≤ k ∧ k < i + j
          · rw [if_pos hk2, if_pos (by (exact zq142 hk2))]
          · rw [if_neg hk2, if_neg (by (exact zq149 hk hk2))]
    · rintro τ D' ⟨F, v3, v4, hF, hcf, rfl, rfl⟩
      rw [he2] at hcf
      refine ⟨F, _, _, _, _, hF, fun k => ?_, rfl, rfl⟩
      rw [hcf k]
      show _ = Law.cm (Law.cf b) (Law.cf a) 0 i k + Law.cf a i * Law.sh (0 + i) (Law.cf b) k
      rw [Nat.zero_add]
      unfold Law.sh
      by_cases hk : k < i
      · rw [if_neg (by (exact zq59 hk)), if_pos hk]
      · rw [if_neg hk]
        by_cases hk2 : k < i + b.length
        · rw [if_pos (by (exact zq635 he2 hk hk2))]
        · rw [if_neg (by (exact zq636 he2 hk2)), Law.cf_ge (l := b) (i := k - i) (by (exact zq633 he2 hk hk2))]
  · rintro τ D' ⟨F, v1, v2, v3, v4, hF, hcf, rfl, rfl⟩
    rw [he1] at hcf
    refine hss_one ?_
    wtm_at "ret"
    wtm_at "go"
    have : F = lmul a b := eq_of_cf (by rw [hF]; simp [lmul]) fun i => by rw [hcf, lmul_cf ha hb]
    rw [this]
    exact post

/-- the trailing zeros of a remainder -/
inductive ComI (a b : List Int) (D : Int × Int) (n : Nat) (τ : STs) (D' : Int × Int) : Prop
  | mk (P Q : List Int) (fuel t K : Nat) (v1 v2 v3 v4 v5 : SV) (q1 : Law.Norm P) (q2 : Law.Norm Q) (q3 : P ≠ []) (q4 : P.length ≤ 5) (q5 : n = Q.length) (q6 : Q.length ≤ fuel) (q7 : t + Q.length ≤ 5) (q8 : K + 1 = 7 ^ t * 8) (q9 : SzL K P) (q10 : SzL K Q) (q11 : Law.common fuel P Q = Law.common b.length a b) (q12 : D' = D) (q13 : τ = [.val (.list (il P)), .val (.list (il Q)), v1, v2, v3, v4, v5, .no, .no, .no]) : ComI a b D n τ D'
inductive ComJ (P Q : List Int) (K : Nat) (D' : Int × Int) (n : Nat) (τ : STs) (D'' : Int × Int) : Prop
  | mk (r : List Int) (s : Nat) (v2 v3 v4 v5 : SV) (q1 : Law.Norm r) (q2 : r.length ≤ n) (q3 : r.length ≤ P.length) (q4 : s + n ≤ P.length) (q5 : SzL (K + s * (K + 1)) r) (q6 : Law.eloop Q n r = Law.erest P Q) (q7 : D'' = D') (q8 : τ = [.val (.list (il P)), .val (.list (il Q)), .own (il r), v2, v3, v4, v5, .no, .no, .no]) : ComJ P Q K D' n τ D''
inductive ComK (P Q r : List Int) (off : Nat) (D2 : Int × Int) (j : Nat) (τ : STs) (D'' : Int × Int) : Prop
  | mk (F : List Int) (v4 v5 : SV) (q1 : F.length = r.length) (q2 : (∀ i, Law.cf F i = Law.lead Q * Law.cf r i - Law.lead r * (if off ≤ i ∧ i < off + j then Law.cf Q (i - off) else 0))) (q3 : D'' = D2) (q4 : τ = [.val (.list (il P)), .val (.list (il Q)), .own (il F), .val (.int (Law.lead r)), .val (.int ((off : Nat) : Int)), v4, v5, .no, .no, .no]) : ComK P Q r off D2 j τ D''
inductive ComL (P Q r : List Int) (off : Nat) (v4 v5 : SV) (D'' : Int × Int) (l : Nat) (τ : STs) (D3 : Int × Int) : Prop
  | mk (G : List Int) (q1 : l = G.length) (q2 : l ≤ r.length) (q3 : Law.trim G = Law.pstep Q r) (q4 : D3 = D'') (q5 : τ = [.val (.list (il P)), .val (.list (il Q)), .own (il G), .val (.int (Law.lead r)), .val (.int ((off : Nat) : Int)), v4, v5, .no, .no, .no]) : ComL P Q r off v4 v5 D'' l τ D3
inductive Ph_common  (ts : List PV) (D : Int × Int) (Post : PV → Int × Int → Prop) : Prop
  | mk (a b : List Int) (k : Nat) (q1 : ts = [.list (il a), .list (il b)]) (q2 : Law.Norm a) (q3 : Law.Norm b) (q4 : a ≠ []) (q5 : a.length ≤ 5) (q6 : b.length ≤ 5) (q7 : SzL k a) (q8 : SzL k b) (q9 : k ≤ 7) (q10 : Post (.bool (Law.common b.length a b)) D) : Ph_common ts D Post
theorem fs_common : FS prog w g₀ mg d "_law_has_common" 1 Ph_common := by
  have h1 := V.len
  have h2 := V.enum
  have h3 := V.list
  refine fs_of d (V.defs _ _ _ _ rfl rfl rfl) (xs := ["one", "other"]) (by wtm_at "ok2") ?_
  rintro A env X ts D Post R ⟨a, b, k, rfl, na, nb, ha, hla, hlb, sa, sb, hk, post⟩
  refine ⟨rfl, [.val (.list (il a)), .val (.list (il b)), .no, .no, .no, .no, .no, .no, .no, .no], (by wtm_at "ini"), ?_⟩
  refine hss_cons ?_
  refine hs_while ((ComI a b D)) b.length
    ⟨a, b, b.length, 0, 7, .no, .no, .no, .no, .no, na, nb, ha, hla, rfl, Nat.le_refl _, by (exact zq307 hlb), rfl, sa.mono hk, sb.mono hk, rfl, rfl, rfl⟩ ?_
  rintro n τ D' ⟨P, Q, fuel, t, K, v1, v2, v3, v4, v5, nP, nQ, hP, hP5, rfl, hfuel, htQ, hK, sP, sQ, hcom, rfl, rfl⟩
  have hPl := List.length_pos_iff.mpr hP
  refine ⟨_, (by wtm_at "full"), ?_⟩
  wtm_at "hx"
  wtm_at "hx"
  refine HN.he (hn_lst ?_)
  wtm_at "go"
  refine ⟨_, co_neL (y := []), ?_⟩
  by_cases hQ : Q = []
  · refine ite_nf hQ ?_
    refine hss_one ?_
    wtm_at "ret"
    wtm_at "go"
    refine ⟨sl64 (by simp; (exact zq95 hP5 hPl)), ?_⟩
    wtm_at "go"
    have e : Law.common fuel P Q = decide (1 < P.length) := by
      cases fuel with
      | zero => rfl
      | succ f => unfold Law.common; rw [if_pos hQ]
    rw [← hcom, e] at post
    have e2 : decide ((1 : Int) < ((il P).length : Int)) = decide (1 < P.length) := by
      simp only [List.length_map]; congr 1; apply propext; (exact zq308 hP5 hPl)
    rw [e2]
    exact post
  refine ite_nt hQ ?_
  have hQl := List.length_pos_iff.mpr hQ
  obtain ⟨f', rfl⟩ : ∃ f', fuel = f' + 1 := ⟨fuel - 1, by (exact zq466 hfuel hQl)⟩
  have hKle : 7 * (K + 1) ≤ 1000000 := by
    have : 7 ^ t ≤ 7 ^ 4 := Nat.pow_le_pow_right (by decide) (by (exact zq388 htQ hQl))
    rw [hK]
    have := Nat.mul_le_mul_right 8 this
    omega
  refine hss_cons ?_
  refine hs_assign_own ?_
  wtm_at "of"
  refine hn_copy ?_ (by wtm_at "mem") h3 (by wtm_at "plain")
  wtm_at "go"
  refine ⟨sl64 (by simp; (exact zq95 hP5 hPl)), il P, rfl, flat_il, ?_⟩
  wtm_at "as"
  refine hss_cons ?_
  refine hs_while ((ComJ P Q K D')) P.length
    ⟨P, 0, v2, v3, v4, v5, nP, Nat.le_refl _, Nat.le_refl _, by (exact zq207), sP.mono (by (exact zq73)), rfl, rfl, rfl⟩ ?_
  rintro n τ D2 ⟨r, s, v2, v3, v4, v5, nr, hrn, hrP, hsn, szr, hel, rfl, rfl⟩
  have hs5 : s * (K + 1) ≤ 5 * (K + 1) := Nat.mul_le_mul_right _ (by (exact zq562 hP5 hPl hsn))
  refine ⟨_, (by wtm_at "full"), ?_⟩
  wtm_at "go"
  refine ⟨sl64 (by simp; (exact zq615 hP5 hPl hrn hsn)), ?_⟩
  wtm_at "go"
  refine ⟨sl64 (by simp; (exact zq55 htQ)), ?_⟩
  wtm_at "go"
  by_cases hlen : Q.length ≤ r.length
  · refine ite_t (by simpa using hlen) ?_
    obtain ⟨n', rfl⟩ : ∃ n', n = n' + 1 := ⟨n - 1, by (exact zq605 htQ hQl hrn hlen)⟩
    have hrne : r ≠ [] := by rintro rfl; simp at hlen; exact hQ hlen
    have hrl := List.length_pos_iff.mpr hrne
    refine hss_cons ?_
    wtm_at "tup2"
    refine ha_tuple ?_
    refine hal_cons ?_
    wtm_at "af"
    wtm_at "go"
    refine ⟨_, _, _, rfl, sl64 (by simp; (exact zq61 hP5 hPl hrn hsn)), rfl, idx_last hrne, trivial, ?_⟩
    refine hal_cons ?_
    wtm_at "af"
    wtm_at "go"
    refine ⟨sl64 (by simp; (exact zq61 hP5 hPl hrn hsn)), ?_⟩
    wtm_at "go"
    refine ⟨sl64 (by simp; (exact zq55 htQ)), ?_⟩
    wtm_at "go"
    refine ⟨trivial, ?_⟩
    refine hal_nil ?_
    refine ⟨sl64 (by simp), ?_⟩
    wtm_at "as2"
    rw [show ((il r).length : Int) - ((il Q).length : Int) = ((r.length - Q.length : Nat) : Int) by simp; (exact zq134 hlen)]
    refine hss_cons ?_
    refine hs_comp (by wtm_at "full") (by wtm_at "scok") (by wtm_at "cap") (hi_list ?_) rfl (by wtm_at "mem")
    wtm_at "go"
    refine comp_map (fun i => .int (r.getD i 0 * Law.lead Q)) (by simp; (exact zq61 hP5 hPl hrn hsn)) (fun i t ht => ?_) ?_
    · obtain ⟨hi, rfl⟩ := il_at ht
      refine ⟨_, .name (by wtm_at "sat") rfl, fun env X => ?_⟩
      wtm_at "go"
      refine ⟨_, _, _, rfl, sl64 (by simp; (exact zq55 htQ)), rfl, idx_last hQ, ?_⟩
      exact ⟨_, _, _, rfl, rfl, io_mul (mulOk (szr.getD i) (sQ.getD _) (by (exact zq139 hK hKle hs5)) (by (exact zq118 hK hKle))), rfl, rfl⟩
    rw [show (il r).length = r.length by simp, range_map_il (fun x => x * Law.lead Q) r]
    refine ⟨_, rfl, flat_il, .own _, _, .inr rfl, (by wtm_at "set"), ?_⟩
    have he2 : (enums (il Q)).length = Q.length := by simp [enums]
    have hoff : r.length - Q.length + Q.length = r.length := by (exact zq566 hlen he2)
    generalize hof : r.length - Q.length = off at *
    refine hss_cons ?_
    refine hs_for (his_base (by wtm_at "base") fun X => hi_enum ?_ (by wtm_at "mem") h2 (by wtm_at "plain"))
    wtm_at "go"
    refine ⟨(ComK P Q r off D2),
      ⟨r.map (fun x => x * Law.lead Q), v4, v5, by simp, fun i => by rw [Law.cf_map (fun x => x * Law.lead Q) (by simp), if_neg (by (exact zq107))]; grind, rfl, rfl⟩, ?_, ?_⟩
    · rintro j t τ D'' ht ⟨F, v4, v5, hF, hcf, rfl, rfl⟩
      obtain ⟨hj, rfl⟩ := enums_at ht
      refine ⟨_, .two (by wtm_at "set") (.inl rfl) (by wtm_at "set") (.inl rfl), fun X => ?_⟩
      refine hss_one ?_
      refine hs_set (by wtm_at "ats") (by wtm_at "full") ?_
      wtm_at "af"
      wtm_at "go"
      have hij : off + j < F.length := by (exact zq680 he2 hoff hF hj)
      have e0 : (off : Int) + (j : Int) = ((off + j : Nat) : Int) := by (exact zq48)
      rw [e0]
      refine ⟨_, _, _, rfl, sl64 (by simp; (exact zq666 hP5 hPl hrP he2 hoff hF)), rfl, idx_nat hij, ?_⟩
      wtm_at "go"
      refine ⟨_, _, _, rfl, rfl, io_mul (mulOk (szr.getD _) (sQ.getD j) (by (exact zq139 hK hKle hs5)) (by (exact zq118 hK hKle))), ?_⟩
      wtm_at "go"
      refine ⟨trivial, ?_⟩
      wtm_at "go"
      rw [e0]
      refine ⟨by (exact zq658 hlen he2 hoff), by rw [List.length_map]; (exact zq679 he2 hoff hF hj), by omega, _, (by wtm_at "set"), rfl, F.set (off + j) (Law.cf F (off + j) - Law.lead r * Q.getD j 0), .val (.int j), .val (.int (Q.getD j 0)), by rw [List.length_set]; exact hF, fun i => ?_, rfl, ?_⟩
      rotate_right
      · rw [show (((off + j : Nat) : Int)).toNat = off + j from rfl, show (il F).set (off + j) (PV.int (Law.cf F (off + j) - Law.lead r * Q.getD j 0)) = il (F.set (off + j) (Law.cf F (off + j) - Law.lead r * Q.getD j 0)) by simp [il]]; rfl
      · rw [set_cf hij]
        by_cases hk : i = off + j
        · subst hk
          rw [if_pos rfl, hcf, if_neg (by (exact zq106)), if_pos (by (exact zq105)), show off + j - off = j by (exact zq50)]
          show _ - Law.lead r * Law.cf Q j = _
          grind
        · rw [if_neg hk, hcf i]
          by_cases hk2 : off ≤ i ∧ i < off + j
          · rw [if_pos hk2, if_pos (by (exact zq142 hk2))]
          · rw [if_neg hk2, if_neg (by (exact zq149 hk hk2))]
    rintro τ D'' ⟨F, v4, v5, hF, hcf, rfl, rfl⟩
    rw [he2] at hcf
    have hps : Law.trim F = Law.pstep Q r := Law.norm_ext (Law.trim_norm _) (Law.zsub_norm _ _) fun i => by
      show _ = Law.cf (Law.pstep Q r) i
      rw [Law.trim_cf, hcf, Law.pstep_cf, hof]
      unfold Law.sh
      by_cases hk : i < off
      · rw [if_neg (by (exact zq59 hk)), if_pos hk]
      · rw [if_neg hk]
        by_cases hk2 : i < off + Q.length
        · rw [if_pos (by (exact zq677 he2 hoff hF hk hk2))]
        · rw [if_neg (by (exact zq678 he2 hoff hF hk2)), Law.cf_ge (l := Q) (i := i - off) (by (exact zq686 htQ hQl he2 hoff hF hk hk2))]
    have hpl := Law.pstep_len hQ hlen
    refine hss_one ?_
    refine hs_while ((ComL P Q r off v4 v5 D'')) F.length ⟨F, rfl, by (exact zq653 he2 hoff hF), hps, rfl, rfl⟩ ?_
    rintro l τ D3 ⟨G, rfl, hGl, hG, rfl, rfl⟩
    have done : (G ≠ [] → Law.lead G ≠ 0) → LtI (ComJ P Q K D3) (n' + 1) [SV.val (.list (il P)), .val (.list (il Q)), .own (il G), .val (.int (Law.lead r)), .val (.int ((off : Nat) : Int)), v4, v5, .no, .no, .no] D3 := fun hnz => by
      have e : G = Law.pstep Q r := by rw [← hG]; exact (Law.trim_id hnz).symm
      refine ⟨n', by (exact zq3), G, s + 1, _, _, _, _, hnz, by rw [e]; (exact zq685 hrn he2 hoff hF hpl), by (exact zq684 hrP he2 hoff hF hGl), by (exact zq510 hsn), ?_, ?_, rfl, rfl⟩
      · rw [e]; exact (szl_pstep szr sQ).mono (by rw [Nat.succ_mul]; (exact zq49))
      · rw [← hel, e]
        conv => rhs; unfold Law.eloop
        rw [if_pos hlen]
    refine ⟨_, (by wtm_at "full"), ?_⟩
    refine ht_and ?_
    wtm_at "hx"
    wtm_at "hx"
    refine HN.he (hn_lst ?_)
    wtm_at "go"
    refine ⟨_, co_neL (y := []), ?_⟩
    by_cases hG0 : G = []
    · refine ite_nf hG0 ?_
      exact done fun h => absurd hG0 h
    refine ite_nt hG0 ?_
    have hGl' := List.length_pos_iff.mpr hG0
    wtm_at "go"
    refine ⟨_, _, _, rfl, sl64 (by simp; (exact zq157 hP5 hPl hrP hrl he2 hoff hF hGl)), rfl, idx_last hG0, ?_⟩
    wtm_at "go"
    by_cases hz : Law.lead G = 0
    · refine ite_t hz ?_
      refine hss_one ?_
      refine hs_pop (by wtm_at "ats") (sl64 (by simp; (exact zq157 hP5 hPl hrP hrl he2 hoff hF hGl))) (by intro h; exact hG0 (List.map_eq_nil_iff.mp h)) ?_ rfl
      refine ⟨_, (by wtm_at "set"), G.dropLast.length, by simp; (exact zq7 hGl'), G.dropLast, rfl, by simp; (exact zq669 he2 hoff hF hGl), ?_, rfl, ?_⟩
      · rw [← hG]
        have e : G = G.dropLast ++ [0] := by
          have := List.dropLast_concat_getLast hG0
          rw [show G.getLast hG0 = 0 by
            rw [← hz]; unfold Law.lead
            rw [List.getD_eq_getElem?_getD, List.getElem?_eq_getElem (by (exact zq7 hGl')), List.getLast_eq_getElem]; rfl] at this
          exact this.symm
        conv => rhs; rw [e]
        exact (trim_snoc0 _).symm
      · rw [show (il G).dropLast = il G.dropLast by simp [il]]; rfl
    · refine ite_f hz ?_
      exact done fun _ => hz
  · refine ite_f (by simpa using hlen) ?_
    have hr : Law.erest P Q = r := by
      rw [← hel]
      cases n with
      | zero => rfl
      | succ n => unfold Law.eloop; rw [if_neg (by (exact zq481 hlen))]
    refine hss_one ?_
    refine hs_freeze (x := "rest") (by wtm_at "ats") (by wtm_at "set") ?_
    wtm_at "tup2"
    wtm_at "ab"
    wtm_at "go"
    wtm_at "as2"
    refine ⟨r.length, by (exact zq30 hlen), Q, r, f', t + 1, K + 6 * (K + 1), _, _, _, _, _, nQ, nr, hQ, by (exact zq426 htQ), rfl, by (exact zq586 hfuel hlen), by (exact zq526 htQ hlen), by rw [Nat.pow_succ]; (exact zq380 hK), sQ.mono (by (exact zq381 hK hKle)), szr.mono (by (exact zq520 hK hs5)), ?_, rfl, rfl⟩
    rw [← hcom, ← hr]
    conv => rhs; unfold Law.common
    rw [if_neg hQ]
end
section
variable {prog : Program} {w : World} {g₀ : Heap} {mg : Str → Option Value} (V : View g₀ mg) (a : Addr)
noncomputable def DOk (D : Int × Int) : Prop := 0 ≤ D.1 ∧ 0 ≤ D.2
include V
theorem fs_take : FS prog w g₀ mg (some a) "_law_take" 1 fun ts D Post => ∃ n : Nat, ts = [.dd a, .int n] ∧ 1 ≤ n ∧ n ≤ 100 ∧ DOk D ∧ ∀ (r : Nat) D', r < n → DOk D' → Post (.int r) D' := by
  refine fs_of (some a) (V.defs _ _ _ _ rfl rfl rfl) (xs := ["draws", "many"]) (by wtm_at "ok2") ?_
  rintro A env X ts D Post R ⟨n, rfl, h1, h100, ⟨g0, m0⟩, post⟩
  refine ⟨rfl, [.val (.dd a), .val (.int n), .no], (by wtm_at "ini"), ?_⟩
  have hn0 : (n : Int) ≠ 0 := by (exact zq254 h1 h100)
  have szn : Sz 10 (n : Int) := by show _ < _; simp; (exact zq256 h1 h100)
  have modOk : ∀ x : Int, 0 ≤ x → ∃ r : Nat, x.fmod (n : Int) = r ∧ r < n := fun x hx => by
    have h2 := Int.fmod_nonneg hx (show (0 : Int) ≤ n by (exact zq38 h1 h100))
    have h3 := Int.fmod_lt_of_pos x (show (0 : Int) < n by (exact zq255 h1 h100))
    exact ⟨(x.fmod n).toNat, by (exact zq166 h2), by (exact zq192 h1 h100 h3)⟩
  refine hss_cons ?_
  wtm_at "if"
  wtm_at "hx"
  refine he_draw (by wtm_at "at") rfl (.inl ⟨rfl, rfl⟩) ?_
  wtm_at "go"
  by_cases hg : 0 < D.1
  · refine ite_t hg ?_
    refine hss_cons ?_
    refine hs_found_draw (by wtm_at "ats") rfl (by decide) ?_
    wtm_at "ab"
    wtm_at "hx"
    wtm_at "hx"
    wtm_at "hx"
    refine he_draw (by wtm_at "at") rfl (.inl ⟨rfl, rfl⟩) ?_
    wtm_at "go"
    refine ⟨_, _, _, rfl, rfl, io_mod hn0, ?_⟩
    wtm_at "hx"
    wtm_at "hx"
    refine he_draw (by wtm_at "at") rfl (.inl ⟨rfl, rfl⟩) ?_
    wtm_at "go"
    refine ⟨_, _, _, rfl, rfl, io_div hn0 (noPy szn (by decide)), ?_⟩
    wtm_at "go"
    refine ⟨_, _, _, _, _, rfl, .inl ⟨rfl, rfl⟩, (by wtm_at "set"), (by wtm_at "lc"), (by wtm_at "ats"), ?_⟩
    refine hss_one ?_
    wtm_at "ret"
    wtm_at "go"
    obtain ⟨r, e, hr⟩ := modOk D.1 g0
    rw [e]
    refine post r _ hr ⟨?_, m0⟩
    rw [Int.fdiv_eq_ediv_of_nonneg _ (by (exact zq38 h1 h100))]
    exact Int.ediv_nonneg g0 (by (exact zq38 h1 h100))
  · refine ite_f hg ?_
    refine hss_nil ?_
    refine hss_cons ?_
    refine hs_draw (by wtm_at "ats") rfl ?_
    wtm_at "ab"
    wtm_at "hx"
    wtm_at "hx"
    wtm_at "hx"
    refine he_draw (by wtm_at "at") rfl (.inr ⟨rfl, rfl⟩) ?_
    wtm_at "go"
    refine ⟨_, _, _, rfl, rfl, io_mul (IntMulOk.of_right (by decide)), ?_⟩
    wtm_at "go"
    refine ⟨_, _, _, rfl, rfl, io_mod (by decide), ?_⟩
    refine ⟨_, _, rfl, .inr ⟨rfl, rfl⟩, ?_⟩
    have hm2 : 0 ≤ (D.2 * 48271 + 11).fmod 2147483647 := Int.fmod_nonneg (by (exact zq165 m0)) (by decide)
    generalize (D.2 * 48271 + 11).fmod 2147483647 = m2 at hm2
    refine hss_one ?_
    wtm_at "ret"
    wtm_at "hx"
    wtm_at "hx"
    refine he_draw (v := m2) (by wtm_at "at") rfl (.inr ⟨rfl, rfl⟩) ?_
    wtm_at "go"
    refine ⟨_, _, _, rfl, rfl, io_div (by decide) (noPy (k := 10) (by show _ < _; decide) (by decide)), ?_⟩
    wtm_at "go"
    refine ⟨_, _, _, rfl, rfl, io_mod hn0, ?_⟩
    obtain ⟨r, e, hr⟩ := modOk (m2.fdiv 16) (by rw [Int.fdiv_eq_ediv_of_nonneg _ (by decide)]; exact Int.ediv_nonneg hm2 (by decide))
    rw [e]
    exact post r _ hr ⟨g0, hm2⟩

theorem fs_poly : FS prog w g₀ mg (some a) "_law_poly" 2 fun ts D Post => ∃ n : Nat, ts = [.dd a, .int n] ∧ 1 ≤ n ∧ n ≤ 4 ∧ DOk D ∧ ∀ (l : List Int) D', 2 ≤ l.length → l.length ≤ n + 1 → (∀ x ∈ l, x.natAbs ≤ 5) → Law.Norm l → DOk D' → Post (.list (il l)) D' := by
  have h1 := V.range
  refine fs_of (some a) (V.defs _ _ _ _ rfl rfl rfl) (xs := ["draws", "most"]) (by wtm_at "ok2") ?_
  rintro A env X ts D Post R ⟨n, rfl, hn1, hn4, dok, post⟩
  refine ⟨rfl, [.val (.dd a), .val (.int n), .no, .no, .no], (by wtm_at "ini"), ?_⟩
  refine hss_cons ?_
  refine hs_comp (by wtm_at "full") (by wtm_at "scok") (by wtm_at "cap") (hi_range1 ?_ (by wtm_at "mem") h1 (by wtm_at "plain")) rfl (by wtm_at "mem")
  wtm_at "hx"
  refine he_call (fs_take V a) R ?_ (by wtm_at "mem") rfl (by wtm_at "plain")
  wtm_at "go"
  refine ⟨hn1, by (exact zq257 hn1 hn4), dok, fun t D₁ ht dok1 => ?_⟩
  wtm_at "go"
  refine ⟨by (exact zq70), by (exact zq357 hn1 hn4 ht), ?_⟩
  have hlen : (il (upto 0 ((t : Int) + 1))).length = t + 1 := by rw [upto_len]; (exact zq215)
  refine ⟨sl64 (by rw [hlen]; (exact zq501 hn1 hn4 ht hlen)), fun i D ys => DOk D ∧ ∃ l : List Int, ys = il l ∧ l.length = i ∧ ∀ x ∈ l, x.natAbs ≤ 5, ⟨dok1, [], rfl, rfl, fun x hx => (nomatch hx)⟩, ?_, ?_⟩
  · rintro i t' D2 ys ht' ⟨dok2, l, rfl, hl, hx⟩
    obtain ⟨hi, rfl⟩ := upto_at ht'
    refine ⟨_, .name (by wtm_at "sat") rfl, fun env X => ?_⟩
    show HE _ _ _ _ _ _
    wtm_at "hx"
    refine he_call (fs_take V a) R ?_ (by wtm_at "mem") rfl (by wtm_at "plain")
    wtm_at "go"
    refine ⟨by decide, by decide, dok2, fun r D3 hr dok3 => ?_⟩
    have hr : r < 9 := hr
    wtm_at "go"
    refine ⟨Nat.le_refl _, dok3, l ++ [(r : Int) - 4], by simp [il], by simp; (exact zq404 hl), fun x hx' => ?_⟩
    rcases List.mem_append.mp hx' with q | q
    · exact hx x q
    · rw [List.mem_singleton.mp q]; (exact zq294 hr)
  · rintro D2 ys ⟨dok2, l, rfl, hl, hx⟩
    rw [hlen] at hl
    refine ⟨_, rfl, flat_il, .val _, _, .inl rfl, (by wtm_at "set"), ?_⟩
    refine hss_one ?_
    wtm_at "ret"
    refine HN.he (hn_cat ?_)
    wtm_at "go"
    refine HN.he (hn_lst ?_)
    refine hls_cons ?_
    refine he_item ?_
    refine HN.he (hn_lst ?_)
    wtm_at "go"
    refine he_call (fs_take V a) R ?_ (by wtm_at "mem") rfl (by wtm_at "plain")
    wtm_at "go"
    refine ⟨by decide, by decide, dok2, fun r D3 hr dok3 => ?_⟩
    have : ∃ v : Int, idx [PV.int 1, .int (-1), .int 2, .int (-3), .int 5] (r : Int) = some (.int v) ∧ v ≠ 0 ∧ v.natAbs ≤ 5 := by
      match r, hr with
      | 0, _ => exact ⟨1, rfl, by decide, by decide⟩
      | 1, _ => exact ⟨-1, rfl, by decide, by decide⟩
      | 2, _ => exact ⟨2, rfl, by decide, by decide⟩
      | 3, _ => exact ⟨-3, rfl, by decide, by decide⟩
      | 4, _ => exact ⟨5, rfl, by decide, by decide⟩
    obtain ⟨v, hv, hv0, hv5⟩ := this
    refine ⟨_, _, _, rfl, sl64 (by decide), rfl, hv, ?_⟩
    wtm_at "go"
    refine ⟨_, _, rfl, rfl, sl64 (by simp; (exact zq599 hn1 hn4 ht hlen hl)), ?_⟩
    have := post (l ++ [v]) D3 (by simp; (exact zq558 hlen hl)) (by simp; (exact zq623 ht hlen hl)) (fun x hx' => ?_) (fun _ => ?_) dok3
    · simpa [il] using this
    · rcases List.mem_append.mp hx' with q | q
      · exact hx x q
      · rw [List.mem_singleton.mp q]; exact hv5
    · simpa [Law.lead] using hv0
end
section
variable {prog : Program} {w : World} {g₀ : Heap} {mg : Str → Option Value} (V : View g₀ mg) (d : Option Addr)

/-- an entry of the law's matrix -/
noncomputable def ment (a b : List Int) (r c : Nat) : Int :=
  let src := if r < b.length - 1 then a else b
  let off := if r < b.length - 1 then r else r - (b.length - 1)
  if off ≤ c ∧ c < off + src.length then src.getD (src.length - 1 - (c - off)) 0 else 0
noncomputable def mrow (a b : List Int) (r : Nat) : List Int := (List.range (a.length - 1 + (b.length - 1))).map (ment a b r)

inductive MatI (a b : List Int) (m n : Nat) (D : Int × Int) (i : Nat) (τ : STs) (D' : Int × Int) : Prop
  | mk (v1 v2 v3 v4 v5 v6 : SV) (q1 : D' = D) (q2 : τ = [.val (.list (il a)), .val (.list (il b)), .val (.int m), .val (.int n), .own ((List.range i).map fun r => PV.list (il (mrow a b r))), v1, v2, v3, v4, v5, v6, .no, .no]) : MatI a b m n D i τ D'
inductive MatN (a b : List Int) (m n i : Nat) (v4 v5 v6 : SV) (D' : Int × Int) (τ' : STs) (D2 : Int × Int) : Prop
  | mk (q1 : D2 = D') (src : List Int) (off : Nat) (q2 : src = (if i < n then a else b)) (q3 : off = (if i < n then i else i - n)) (q4 : τ' = [.val (.list (il a)), .val (.list (il b)), .val (.int m), .val (.int n), .own ((List.range i).map fun r => PV.list (il (mrow a b r))), .val (.int i), .val (.list (il src)), .val (.int off), v4, v5, v6, .no, .no]) : MatN a b m n i v4 v5 v6 D' τ' D2
inductive MatJ (a b src : List Int) (m n i off : Nat) (D2 : Int × Int) (j : Nat) (τ : STs) (D3 : Int × Int) : Prop
  | mk (v5 v6 : SV) (q1 : D3 = D2) (q2 : τ = [.val (.list (il a)), .val (.list (il b)), .val (.int m), .val (.int n), .own ((List.range i).map fun r => PV.list (il (mrow a b r))), .val (.int i), .val (.list (il src)), .val (.int off), .own (il ((List.range j).map (ment a b i))), v5, v6, .no, .no]) : MatJ a b src m n i off D2 j τ D3
inductive Ph_matrix  (ts : List PV) (D : Int × Int) (Post : PV → Int × Int → Prop) : Prop
  | mk (a b : List Int) (q1 : ts = [.list (il a), .list (il b)]) (q2 : a ≠ []) (q3 : b ≠ []) (q4 : a.length ≤ 100) (q5 : b.length ≤ 100) (q6 : Post (.list ((List.range (a.length - 1 + (b.length - 1))).map fun r => PV.list (il (mrow a b r)))) D) : Ph_matrix ts D Post
include V
theorem fs_matrix : FS prog w g₀ mg d "_law_matrix" 1 Ph_matrix := by
  have h1 := V.range
  have h2 := V.len
  refine fs_of d (V.defs _ _ _ _ rfl rfl rfl) (xs := ["one", "other"]) (by wtm_at "ok2") ?_
  rintro A env X ts D Post R ⟨a, b, rfl, ha, hb, hla, hlb, post⟩
  have hal := List.length_pos_iff.mpr ha
  have hbl := List.length_pos_iff.mpr hb
  refine ⟨rfl, [.val (.list (il a)), .val (.list (il b)), .no, .no, .no, .no, .no, .no, .no, .no, .no, .no, .no], (by wtm_at "ini"), ?_⟩
  refine hss_cons ?_
  wtm_at "tup2"
  wtm_at "ab"
  wtm_at "go"
  refine ⟨sl64 (by simp; (exact zq8 hla hal)), ?_⟩
  wtm_at "go"
  refine ⟨sl64 (by simp; (exact zq8 hlb hbl)), ?_⟩
  wtm_at "go"
  wtm_at "as2"
  rw [show ((il a).length : Int) - 1 = ((a.length - 1 : Nat) : Int) by simp; (exact zq19 hla hal), show ((il b).length : Int) - 1 = ((b.length - 1 : Nat) : Int) by simp; (exact zq19 hlb hbl)]
  generalize hm : a.length - 1 = m at *
  generalize hn : b.length - 1 = n at *
  refine hss_cons ?_
  refine hs_assign_own ?_
  wtm_at "of"
  refine hn_lst ?_
  wtm_at "go"
  refine ⟨fun x hx => (nomatch hx), ?_⟩
  wtm_at "as"
  refine hss_cons ?_
  refine hs_for (his_base (by wtm_at "base") fun X => hi_range1 ?_ (by wtm_at "mem") h1 (by wtm_at "plain"))
  wtm_at "go"
  refine ⟨by (exact zq621 hm hn), by (exact zq153 hla hlb hal hbl hm hn), ?_⟩
  refine ⟨(MatI a b m n D), ⟨.no, .no, .no, .no, .no, .no, rfl, rfl⟩, ?_, ?_⟩
  · rintro i t τ D' ht ⟨v1, v2, v3, v4, v5, v6, rfl, rfl⟩
    obtain ⟨hi, rfl⟩ := upto_at ht
    have hi : i < m + n := by (exact zq527 hi)
    have h0 : (0 : Int) + (i : Int) = (i : Int) := by (exact zq11)
    rw [h0]
    refine ⟨_, .name (by wtm_at "set") (.inl rfl), fun X => ?_⟩
    refine hss_cons ?_
    refine HX.mono (N' := (MatN a b m n i v4 v5 v6 D')) (R' := Post) ?_ ?_ (fun _ _ h => h)
    · wtm_at "tup2"
      wtm_at "ab"
      wtm_at "go"
      by_cases hin : i < n
      · refine ite_t (by (exact zq27 hin)) ?_
        wtm_at "go"
        wtm_at "as2"
        exact ⟨rfl, a, i, by rw [if_pos hin], by rw [if_pos hin], rfl⟩
      · refine ite_f (by (exact zq137 hin)) ?_
        wtm_at "go"
        wtm_at "as2"
        rw [show (i : Int) - (n : Int) = ((i - n : Nat) : Int) by (exact zq472 hin)]
        exact ⟨rfl, b, i - n, by rw [if_neg hin], by rw [if_neg hin], rfl⟩
    rintro τ' D2 ⟨rfl, src, off, hsrc, hoff, rfl⟩
    have hsl : 1 ≤ src.length ∧ src.length ≤ 100 := by rw [hsrc]; split <;> (first | exact zq93 hla hal | exact zq93 hlb hbl | omega)
    have hofl : off ≤ 200 := by rw [hoff]; split <;> (first | exact zq611 hlb hbl hn (by assumption) (by assumption) | exact zq654 hla hlb hal hbl hm (by assumption) hi (by assumption) | omega)
    refine hss_cons ?_
    refine hs_assign_own ?_
    wtm_at "of"
    refine hn_lst ?_
    wtm_at "go"
    refine ⟨fun x hx => (nomatch hx), ?_⟩
    wtm_at "as"
    refine hss_cons ?_
    refine hs_for (his_base (by wtm_at "base") fun X => hi_range1 ?_ (by wtm_at "mem") h1 (by wtm_at "plain"))
    wtm_at "go"
    refine ⟨by (exact zq574 hi), by (exact zq153 hla hlb hal hbl hm hn), ?_⟩
    refine ⟨(MatJ a b src m n i off D2), ⟨v5, v6, rfl, rfl⟩, ?_, ?_⟩
    · rintro j t τ D3 ht ⟨v5, v6, rfl, rfl⟩
      obtain ⟨hj, rfl⟩ := upto_at ht
      have hj : j < m + n := by (exact zq632 (by assumption) hj)
      have h0 : (0 : Int) + (j : Int) = (j : Int) := by (exact zq11)
      rw [h0]
      refine ⟨_, .name (by wtm_at "set") (.inl rfl), fun X => ?_⟩
      refine hss_cons ?_
      wtm_at "let"
      wtm_at "ab"
      wtm_at "go"
      refine ⟨sl64 (by simp; (exact zq39 hsl)), ?_⟩
      wtm_at "go"
      wtm_at "as"
      refine hss_one ?_
      refine hs_append (by wtm_at "ats") (sl64 (by simp; (exact zq664 hla hlb hal hbl hm hn (by assumption) hj))) ?_ rfl
      wtm_at "ab"
      refine he_ifexp ?_
      refine ht_chain ?_
      wtm_at "go"
      have hment : ment a b i j = if off ≤ j ∧ j < off + src.length then src.getD (src.length - 1 - (j - off)) 0 else 0 := by
        unfold ment
        rw [hn, ← hsrc, ← hoff]
      have eL : ∀ x : Int, x = ment a b i j → il ((List.range j).map (ment a b i)) ++ [PV.int x] = il ((List.range (j + 1)).map (ment a b i)) := fun x hx => by
        rw [hx, List.range_succ, List.map_append]; simp [il]
      by_cases hc1 : j < off + src.length
      · refine ite_t (by simp; (exact zq610 hoff hc1)) ?_
        wtm_at "go"
        refine ⟨sl64 (by simp; (exact zq39 hsl)), ?_⟩
        wtm_at "go"
        by_cases hc2 : off ≤ j
        · refine ite_t (by simp; (exact zq628 hoff hc2)) ?_
          wtm_at "go"
          refine ⟨_, _, _, rfl, sl64 (by simp; (exact zq39 hsl)), rfl, idx_cf (n := src.length - 1 - (j - off)) (by simp; (exact zq626 hoff hc1 hc2)) (by (exact zq627 hoff hc1 hc2)), ?_⟩
          rw [eL _ (by rw [hment, if_pos ⟨hc2, hc1⟩])]
          refine ⟨_, (by wtm_at "set"), ?_⟩
          exact ⟨_, _, rfl, rfl⟩
        · refine ite_f (by simp; (exact zq630 hoff hc2)) ?_
          wtm_at "go"
          rw [eL _ (by rw [hment, if_neg (by (exact zq603 hoff hc2))])]
          refine ⟨_, (by wtm_at "set"), ?_⟩
          exact ⟨_, _, rfl, rfl⟩
      · refine ite_f (by simp; (exact zq629 hoff hc1)) ?_
        wtm_at "go"
        rw [eL _ (by rw [hment, if_neg (by (exact zq604 hoff hc1))])]
        refine ⟨_, (by wtm_at "set"), ?_⟩
        exact ⟨_, _, rfl, rfl⟩
    · rintro τ D3 ⟨v5, v6, rfl, rfl⟩
      rw [show (il (upto 0 ((m : Int) + (n : Int)))).length = m + n by rw [upto_len]; (exact zq572 (by assumption))]
      refine hss_one ?_
      refine hs_freeze (x := "line") (by wtm_at "ats") (by wtm_at "set") ?_
      refine hs_append (by wtm_at "ats") (sl64 (by simp; (exact zq651 hla hlb hal hbl hm hn (by assumption)))) ?_ rfl
      wtm_at "ab"
      wtm_at "go"
      have : mrow a b i = (List.range (m + n)).map (ment a b i) := by unfold mrow; rw [hm, hn]
      rw [← this, show (List.range i).map (fun r => PV.list (il (mrow a b r))) ++ [PV.list (il (mrow a b i))] = (List.range (i + 1)).map (fun r => PV.list (il (mrow a b r))) by rw [List.range_succ, List.map_append]; rfl]
      refine ⟨_, (by wtm_at "set"), ?_⟩
      exact ⟨_, _, _, _, _, _, rfl, rfl⟩
  · rintro τ D' ⟨v1, v2, v3, v4, v5, v6, rfl, rfl⟩
    rw [show (il (upto 0 ((m : Int) + (n : Int)))).length = m + n by rw [upto_len]; (exact zq622 hm hn)]
    refine hss_one ?_
    wtm_at "ret"
    wtm_at "go"
    exact post
end
section
variable {prog : Program} {w : World} {g₀ : Heap} {mg : Str → Option Value} (V : View g₀ mg) (d : Option Addr)

theorem idx_ill {N : Nat} {M : Nat → List Int} {i : Int} {n : Nat} (hi : i = n) (h : n < N) : idx (ill ((List.range N).map M)) i = some (.list (il (M n))) := by
  subst hi
  unfold idx
  rw [if_pos (by (exact zq5)), List.getElem?_map, List.getElem?_map, show ((n : Int)).toNat = n by simp, List.getElem?_range h]; rfl
theorem idx_cf' {l : List Int} {i : Int} {n : Nat} (hi : i = n) (h : n < l.length) : idx (il l) i = some (.int (Law.cf l n)) := idx_cf hi h
theorem ill_len (N : Nat) (M : Nat → List Int) : (ill ((List.range N).map M)).length = N := by simp
theorem ill_set {N j : Nat} {M : Nat → List Int} {v : List Int} : (ill ((List.range N).map M)).set j (.list (il v)) = ill ((List.range N).map (Law.upd M j v)) := by
  apply List.ext_getElem (by simp)
  intro i h1 h2
  rw [List.getElem_set]
  simp only [List.getElem_map, List.getElem_range, Law.upd]
  by_cases q : j = i
  · rw [if_pos q, if_pos q.symm]
  · rw [if_neg q, if_neg (fun e => q e.symm)]
theorem ill_at {N i : Nat} {M : Nat → List Int} {t : PV} (h : (ill ((List.range N).map M))[i]? = some t) : i < N ∧ t = .list (il (M i)) := by
  have hi := (List.getElem?_eq_some_iff.mp h).1
  rw [ill_len] at hi
  refine ⟨hi, ?_⟩
  rw [List.getElem?_map, List.getElem?_map, List.getElem?_range hi] at h
  exact (Option.some.inj h).symm
noncomputable def RowsOk (N p : Nat) (R : Nat → List Int) : Prop := ∀ i, i < N → (R i).length = N ∧ ∀ x ∈ R i, 0 ≤ x ∧ x < p
theorem RowsOk.cf {N p : Nat} {R : Nat → List Int} (h : RowsOk N p R) {i j : Nat} (hi : i < N) (hj : j < N) : 0 ≤ Law.cf (R i) j ∧ Law.cf (R i) j < p :=
  (h i hi).2 _ (Law.cf_mem (by rw [(h i hi).1]; exact hj))
theorem RowsOk.upd {N p : Nat} {R : Nat → List Int} (h : RowsOk N p R) {j : Nat} {v : List Int} (hv : v.length = N ∧ ∀ x ∈ v, 0 ≤ x ∧ x < p) : RowsOk N p (Law.upd R j v) := fun i hi => by
  unfold Law.upd
  split
  · exact hv
  · exact h i hi
theorem sz30 {p : Nat} (hp : p < 2 ^ 30) {x : Int} (h0 : 0 ≤ x) (h1 : x < p) : Sz 30 x := by
  show x.natAbs < 2 ^ 30
  (exact zq197 hp h0 h1)
theorem fmod_rng {p : Nat} (hp : 2 ≤ p) (x : Int) : 0 ≤ x.fmod p ∧ x.fmod p < p := ⟨Int.fmod_nonneg_of_pos x (by (exact zq77 hp)), Int.fmod_lt_of_pos x (by (exact zq77 hp))⟩

theorem idx_zero {x : PV} {l : List PV} : idx (x :: l) 0 = some x := by simp [idx]
theorem zips_at {x y : List Int} {i : Nat} {t : PV} (h : (zips (il x) (il y))[i]? = some t) : i < x.length ∧ i < y.length ∧ t = .tup [.int (Law.cf x i), .int (Law.cf y i)] := by
  have hi := (List.getElem?_eq_some_iff.mp h).1
  simp only [zips, List.length_map, List.length_zip] at hi
  have h1 : i < x.length := by (exact zq140 hi)
  have h2 : i < y.length := by (exact zq528 hi)
  refine ⟨h1, h2, ?_⟩
  have e : ((il x).zip (il y))[i]? = some (.int (Law.cf x i), .int (Law.cf y i)) := List.getElem?_zip_eq_some.mpr ⟨(by rw [List.getElem?_map, cf_at h1]; rfl), (by rw [List.getElem?_map, cf_at h2]; rfl)⟩
  rw [zips, List.getElem?_map, e] at h
  exact (Option.some.inj h).symm
theorem inv_ok {p v r : Nat} (pr : Law.IsP p) (h0 : 0 < v) (hv : v < p) (hr : r % p = v ^ (p - 2) % p) : (p : Int) ∣ (v : Int) * r - 1 := by
  have h := Law.fermat pr h0 hv
  rw [Nat.mul_mod, ← hr, ← Nat.mul_mod] at h
  have h2 : v * r = p * (v * r / p) + 1 := by have := Nat.div_add_mod (v * r) p; (exact zq507 h this)
  generalize v * r / p = q at h2
  refine ⟨(q : Int), ?_⟩
  rw [← Int.natCast_mul, h2, ← Int.natCast_mul]
  (exact zq338)

inductive DetI (N p : Nat) (M : Nat → List Int) (D0 : Int) (D : Int × Int) (k : Nat) (τ : STs) (D' : Int × Int) : Prop
  | mk (R : Nat → List Int) (f : Int) (v1 v2 v3 v4 v5 : SV) (q1 : RowsOk N p R) (q2 : f.natAbs < p) (q3 : Law.EInv p D0 f N k R) (q4 : D' = D) (q5 : τ = [.val (.list (ill ((List.range N).map M))), .val (.int p), .own (ill ((List.range N).map R)), .val (.int f), v1, v2, v3, v4, v5, .no, .no, .no, .no]) : DetI N p M D0 D k τ D'
inductive DetN (N p : Nat) (M : Nat → List Int) (D0 : Int) (k j0 : Nat) (S' : List Nat) (v2 v4 v5 : SV) (D2 : Int × Int) (τ' : STs) (D3 : Int × Int) : Prop
  | mk (R1 : Nat → List Int) (f1 : Int) (q1 : RowsOk N p R1) (q2 : f1.natAbs < p) (q3 : Law.EInv p D0 f1 N k R1) (q4 : Law.cf (R1 k) k ≠ 0) (q5 : D3 = D2) (q6 : τ' = [.val (.list (ill ((List.range N).map M))), .val (.int p), .own (ill ((List.range N).map R1)), .val (.int f1), .val (.int k), v2, .val (.list (il ((j0 :: S').map fun j : Nat => (j : Int)))), v4, v5, .no, .no, .no, .no]) : DetN N p M D0 k j0 S' v2 v4 v5 D2 τ' D3
inductive DetJ (N p : Nat) (M : Nat → List Int) (D0 f1 f2 : Int) (k j0 r : Nat) (S' : List Nat) (R1 : Nat → List Int) (D3 : Int × Int) (i : Nat) (τ : STs) (D4 : Int × Int) : Prop
  | mk (R2 : Nat → List Int) (v2 v5 : SV) (q1 : RowsOk N p R2) (q2 : Law.EInv p D0 f1 N k R2) (q3 : R2 k = R1 k) (q4 : (∀ j, k < j → j < k + 1 + i → j < N → Law.cf (R2 j) k = 0)) (q5 : D4 = D3) (q6 : τ = [.val (.list (ill ((List.range N).map M))), .val (.int p), .own (ill ((List.range N).map R2)), .val (.int f2), .val (.int k), v2, .val (.list (il ((j0 :: S').map fun j : Nat => (j : Int)))), .val (.int r), v5, .no, .no, .no, .no]) : DetJ N p M D0 f1 f2 k j0 r S' R1 D3 i τ D4
inductive Ph_determinant  (ts : List PV) (D : Int × Int) (Post : PV → Int × Int → Prop) : Prop
  | mk (N p : Nat) (M : Nat → List Int) (q1 : ts = [.list (ill ((List.range N).map M)), .int p]) (q2 : Law.IsP p) (q3 : p < 2 ^ 30) (q4 : N ≤ 100) (q5 : (∀ i, i < N → (M i).length = N)) (q6 : Post (.int ((Law.minor N 0 M).fmod p)) D) : Ph_determinant ts D Post
include V
theorem fs_determinant : FS prog w g₀ mg d "_law_determinant" 2 Ph_determinant := by
  have h1 := V.range
  have h2 := V.len
  have h3 := V.zip
  refine fs_of d (V.defs _ _ _ _ rfl rfl rfl) (xs := ["a", "prime"]) (by wtm_at "ok2") ?_
  rintro A env X ts D Post Rm ⟨N, p, M, rfl, pr, hp30, hN, hM, post⟩
  have p2 : 2 ≤ p := pr.1
  have p0 : (p : Int) ≠ 0 := by (exact zq125 hp30 p2)
  refine ⟨rfl, [.val (.list (ill ((List.range N).map M))), .val (.int p), .no, .no, .no, .no, .no, .no, .no, .no, .no, .no, .no], (by wtm_at "ini"), ?_⟩
  generalize hD0 : Law.minor N 0 M = D0 at post
  refine hss_cons ?_
  refine hs_tup_own (by decide) (ho_base (by wtm_at "base") fun X => hn_comp (by wtm_at "scok") (by wtm_at "cap") (hi_list ?_)) rfl
  wtm_at "go"
  refine comp_map (fun i => .list (il ((M i).map fun x => x.fmod p))) (by simp; (exact zq1 hN)) (fun i t ht => ?_) ?_
  · obtain ⟨hi, rfl⟩ := ill_at ht
    refine ⟨_, .name (by wtm_at "sat") rfl, fun env X => ?_⟩
    refine HN.he (hn_comp (by wtm_at "scok") (by wtm_at "cap") (hi_list ?_))
    wtm_at "go"
    refine comp_map (fun j => .int ((fun x : Int => x.fmod p) ((M i).getD j 0))) (by rw [List.length_map, hM i hi]; (exact zq1 hN)) (fun j t ht => ?_) ?_
    · obtain ⟨hj, rfl⟩ := il_at ht
      refine ⟨_, .name (by wtm_at "sat") rfl, fun env X => ?_⟩
      wtm_at "go"
      exact ⟨_, _, _, rfl, rfl, io_mod p0, rfl, rfl⟩
    · rw [show (il (M i)).length = (M i).length by simp, range_map_il (fun x => x.fmod p) (M i)]
      exact ⟨rfl, rfl⟩
  rw [ill_len]
  refine ⟨(List.range N).map fun i => (M i).map fun x => x.fmod p, by simp [ill], ?_⟩
  refine ⟨_, _, _, _, _, (by wtm_at "set"), (by wtm_at "lc"), (by wtm_at "set"), (by wtm_at "lc"), (by wtm_at "set"), (by wtm_at "sete"), ?_⟩
  generalize hR0 : (fun i => (M i).map fun x : Int => x.fmod p) = R0
  have hR0' : RowsOk N p R0 := fun i hi => by
    subst hR0
    refine ⟨by rw [List.length_map]; exact hM i hi, fun x hx => ?_⟩
    obtain ⟨y, _, rfl⟩ := List.mem_map.mp hx
    exact fmod_rng p2 y
  have inv0 : Law.EInv p D0 1 N 0 R0 := by
    unfold Law.EInv
    rw [Int.one_mul, ← hD0]
    refine Law.minor_mod fun i c hi hc => ?_
    subst hR0
    show (p : Int) ∣ Law.cf ((M i).map fun x : Int => x.fmod p) c - _
    rw [Law.cf_map _ (by simp)]
    exact Law.fmod_dvd _ _
  refine hss_cons ?_
  refine hs_for (his_range1 (by wtm_at "full") ?_ (by wtm_at "mem") h1 (by wtm_at "plain"))
  wtm_at "go"
  refine ⟨sl64 (by rw [ill_len]; (exact zq1 hN)), ?_⟩
  rw [ill_len]
  refine ⟨_, rfl, by (exact zq44 hN), by (exact zq43 hN), ?_⟩
  refine ⟨(DetI N p M D0 D),
    ⟨R0, 1, .no, .no, .no, .no, .no, hR0', by (exact zq398 hp30 p2), inv0, rfl, rfl⟩, ?_, ?_⟩
  · rintro k t τ D' ht ⟨R, f, v1, v2, v3, v4, v5, hR, hf, inv, rfl, rfl⟩
    obtain ⟨hk, rfl⟩ := upto_at ht
    have hk : k < N := by (exact zq452 hN hk)
    rw [show (0 : Int) + (k : Int) = (k : Int) by (exact zq11)]
    refine ⟨_, .name (by wtm_at "set") (.inr rfl), fun X => ?_⟩
    refine hss_cons ?_
    refine hs_comp (by wtm_at "full") (by wtm_at "scok") (by wtm_at "cap") (hi_range2 ?_ (by wtm_at "mem") h1 (by wtm_at "plain")) rfl (by wtm_at "mem")
    wtm_at "go"
    refine ⟨sl64 (by rw [ill_len]; (exact zq1 hN)), ?_⟩
    rw [ill_len]
    refine ⟨_, _, rfl, rfl, by (exact zq204), by (exact zq454 hN hk), by (exact zq44 hN), by (exact zq43 hN), ?_⟩
    refine ⟨sl64 (by rw [upto_len]; (exact zq407 hN hk)), fun i D ys => D = D' ∧ ys = il (((List.range' k i).filter fun j => decide (Law.cf (R j) k ≠ 0)).map fun j : Nat => (j : Int)), ⟨rfl, rfl⟩, ?_, ?_⟩
    · rintro i t D2 ys ht ⟨rfl, rfl⟩
      obtain ⟨hi, rfl⟩ := upto_at ht
      have hi : k + i < N := by (exact zq535 hk hi)
      rw [show (k : Int) + (i : Int) = ((k + i : Nat) : Int) by (exact zq48)]
      refine ⟨_, .name (by wtm_at "sat") rfl, fun env X => ?_⟩
      show HT _ _ _ _ _ _
      wtm_at "go"
      refine ⟨_, _, _, rfl, sl64 (by rw [ill_len]; (exact zq1 hN)), rfl, idx_ill rfl hi, ?_⟩
      wtm_at "go"
      refine ⟨_, _, _, rfl, sl64 (by rw [List.length_map, (hR _ hi).1]; (exact zq1 hN)), rfl, idx_cf' rfl (by rw [(hR _ hi).1]; exact hk), ?_⟩
      wtm_at "go"
      have e1 : (List.range' k (i + 1)).filter (fun j => decide (Law.cf (R j) k ≠ 0)) = (List.range' k i).filter (fun j => decide (Law.cf (R j) k ≠ 0)) ++ if Law.cf (R (k + i)) k = 0 then [] else [k + i] := by
        rw [← List.range'_append_1 (m := i) (n := 1), List.filter_append]
        congr 1
        rw [List.range'_one, List.filter_cons]
        by_cases q : Law.cf (R (k + i)) k = 0 <;> simp [q]
      by_cases q : Law.cf (R (k + i)) k = 0
      · refine ite_nf q ?_
        refine ⟨Nat.zero_le _, rfl, ?_⟩
        rw [e1, if_pos q]; simp
      · refine ite_nt q ?_
        wtm_at "go"
        refine ⟨Nat.le_refl _, rfl, ?_⟩
        rw [e1, if_neg q]; simp [il]
    · rintro D2 ys ⟨rfl, rfl⟩
      rw [show (il (upto (k : Int) (N : Int))).length = N - k by rw [upto_len]; (exact zq436 hk)]
      generalize hS : (List.range' k (N - k)).filter (fun j => decide (Law.cf (R j) k ≠ 0)) = S
      refine ⟨_, rfl, flat_il, .val _, _, .inl rfl, (by wtm_at "set"), ?_⟩
      have memS : ∀ j, j ∈ S ↔ (k ≤ j ∧ j < N) ∧ Law.cf (R j) k ≠ 0 := fun j => by
        rw [← hS, List.mem_filter, List.mem_range'_1, decide_eq_true_eq]
        constructor
        · rintro ⟨⟨a, b⟩, c⟩; exact ⟨⟨a, by (exact zq575 hk b)⟩, c⟩
        · rintro ⟨⟨a, b⟩, c⟩; exact ⟨⟨a, by (exact zq554 hk b)⟩, c⟩
      have lenS : S.length ≤ N := by
        rw [← hS]
        refine Nat.le_trans (List.length_filter_le _ _) ?_
        rw [List.length_range']; (exact zq442 hk)
      clear hS
      refine hss_cons ?_
      wtm_at "if"
      wtm_at "hx"
      wtm_at "hx"
      refine HN.he (hn_lst ?_)
      wtm_at "go"
      refine ⟨_, co_eqL (y := []), ?_⟩
      cases S with
      | nil =>
        refine ite_t rfl ?_
        refine hss_one ?_
        wtm_at "ret"
        wtm_at "go"
        have hz : (p : Int) ∣ D0 := inv.zero hk fun i hi hi' => Classical.byContradiction fun q => nomatch (memS i).mpr ⟨⟨hi, hi'⟩, q⟩
        rw [Law.fmod_zero hz] at post
        exact post
      | cons j0 S' =>
        refine ite_f (by simp) ?_
        obtain ⟨⟨hj1, hj2⟩, hj3⟩ := (memS j0).mp List.mem_cons_self
        clear memS
        refine hss_nil ?_
        refine hss_cons ?_
        refine HX.mono (N' := (DetN N p M D0 k j0 S' v2 v4 v5 D2)) (R' := Post) ?_ ?_ (fun _ _ h => h)
        · wtm_at "if"
          wtm_at "go"
          refine ⟨_, _, _, rfl, sl64 (by rw [List.length_map, List.length_map]; (exact zq57 hN lenS)), rfl, idx_zero, ?_⟩
          wtm_at "go"
          by_cases hjk : j0 = k
          · subst hjk
            refine ite_nf rfl ?_
            refine hss_nil ?_
            exact ⟨R, f, hR, hf, inv, hj3, rfl, rfl⟩
          · refine ite_nt (fun e : (j0 : Int) = (k : Int) => hjk (by (exact zq354 e))) ?_
            refine hss_one ?_
            refine hs_swap (by wtm_at "ats") (by wtm_at "full") ?_
            refine ha_tuple ?_
            refine hal_cons (ha_own_item (by wtm_at "ats") (by wtm_at "full") ?_)
            wtm_at "go"
            refine ⟨_, _, _, rfl, sl64 (by rw [List.length_map, List.length_map]; (exact zq57 hN lenS)), rfl, idx_zero, ?_⟩
            refine ⟨_, _, rfl, idx_ill rfl hj2, sl64 (by rw [ill_len]; (exact zq1 hN)), ?_⟩
            refine hal_cons (ha_own_item (by wtm_at "ats") (by wtm_at "full") ?_)
            wtm_at "go"
            refine ⟨_, _, rfl, idx_ill rfl hk, sl64 (by rw [ill_len]; (exact zq1 hN)), ?_⟩
            refine hal_cons ?_
            wtm_at "af"
            wtm_at "go"
            refine ⟨trivial, hal_nil ⟨sl64 (by simp), _, _, _, rfl, ?_⟩⟩
            wtm_at "go"
            refine ⟨by rw [ill_len]; exact hk, by rw [ill_len]; (exact zq1 hN), rfl, ?_⟩
            rw [ill_set]
            refine ⟨_, _, (by wtm_at "set"), (by wtm_at "ats"), (by wtm_at "full"), ?_⟩
            wtm_at "go"
            refine ⟨_, _, _, rfl, sl64 (by rw [List.length_map, List.length_map]; (exact zq57 hN lenS)), rfl, idx_zero, ?_⟩
            refine ⟨j0, rfl, by rw [ill_len]; exact hj2, rfl, ?_⟩
            rw [ill_set]
            refine ⟨_, _, _, (by wtm_at "set"), (by wtm_at "set"), (by wtm_at "lc"), ?_⟩
            refine ⟨_, -f, (hR.upd (hR j0 hj2)).upd (hR k hk), by (exact zq199 hN hf hk hj3 hj1 hjk), inv.swap (by (exact zq424 hj1 hjk)) hj2, ?_, rfl, rfl⟩
            unfold Law.upd
            rw [if_neg (fun e => hjk e.symm), if_pos rfl]
            exact hj3
        rintro τ' D3 ⟨R1, f1, hR1, hf1, inv1, hpiv, rfl, rfl⟩
        have pv := hR1.cf hk hk
        refine hss_cons ?_
        wtm_at "let"
        wtm_at "af"
        wtm_at "go"
        refine ⟨_, _, _, rfl, sl64 (by rw [ill_len]; (exact zq1 hN)), rfl, idx_ill rfl hk, ?_⟩
        wtm_at "go"
        refine ⟨_, _, _, rfl, sl64 (by rw [List.length_map, (hR1 _ hk).1]; (exact zq1 hN)), rfl, idx_cf' rfl (by rw [(hR1 _ hk).1]; exact hk), ?_⟩
        refine ⟨_, _, _, rfl, rfl, io_mul (mulOk (a := 30) (b := 30) (show _ < _ by (exact zq198 hp30 p2 hf1)) (sz30 hp30 pv.1 pv.2) (by decide) (by decide)), ?_⟩
        wtm_at "go"
        refine ⟨_, _, _, rfl, rfl, io_mod p0, ?_⟩
        refine ⟨trivial, ?_⟩
        wtm_at "as"
        generalize hf2 : (f1 * Law.cf (R1 k) k).fmod p = f2
        have hf2r : f2.natAbs < p := by
          have := fmod_rng p2 (f1 * Law.cf (R1 k) k)
          (exact zq195 hf2 this)
        refine hss_cons ?_
        wtm_at "let"
        wtm_at "af"
        refine he_call (fs_inverse V d) (Rm.le (by decide)) ?_ (by wtm_at "mem") rfl (by wtm_at "plain")
        wtm_at "go"
        refine ⟨_, _, _, rfl, sl64 (by rw [ill_len]; (exact zq1 hN)), rfl, idx_ill rfl hk, ?_⟩
        wtm_at "go"
        refine ⟨_, _, _, rfl, sl64 (by rw [List.length_map, (hR1 _ hk).1]; (exact zq1 hN)), rfl, idx_cf' rfl (by rw [(hR1 _ hk).1]; exact hk), ?_⟩
        wtm_at "go"
        obtain ⟨v, hv⟩ := Int.eq_ofNat_of_zero_le pv.1
        refine ⟨v, p, by rw [hv], p2, hp30, fun r hr hmod => ?_⟩
        have hinv : (p : Int) ∣ (v : Int) * r - 1 := inv_ok pr (by (exact zq336 hpiv pv hv)) (by (exact zq486 pv hv)) hmod
        refine ⟨trivial, ?_⟩
        wtm_at "as"
        refine hss_one ?_
        refine hs_for (his_range2 (by wtm_at "full") ?_ (by wtm_at "mem") h1 (by wtm_at "plain"))
        wtm_at "go"
        refine ⟨sl64 (by rw [ill_len]; (exact zq1 hN)), ?_⟩
        rw [ill_len]
        refine ⟨_, _, rfl, rfl, by (exact zq70), by (exact zq453 hN hk), by (exact zq44 hN), by (exact zq43 hN), ?_⟩
        refine ⟨(DetJ N p M D0 f1 f2 k j0 r S' R1 D3),
          ⟨R1, v2, v5, hR1, inv1, rfl, fun j h1 h2 => by (exact zq488 h1 h2), rfl, rfl⟩, ?_, ?_⟩
        · rintro i t τ D4 ht ⟨R2, v2, v5, hR2, inv2, hRk, hcl, rfl, rfl⟩
          obtain ⟨hi, rfl⟩ := upto_at ht
          have hi : k + 1 + i < N := by (exact zq534 hk hi)
          rw [show (k : Int) + 1 + (i : Int) = ((k + 1 + i : Nat) : Int) by (exact zq340)]
          generalize hj : k + 1 + i = j at hi ⊢
          have hkj : k < j := by (exact zq516 hj)
          have pj := hR2.cf hi hk
          refine ⟨_, .name (by wtm_at "set") (.inl rfl), fun X => ?_⟩
          refine hss_cons ?_
          wtm_at "let"
          wtm_at "af"
          wtm_at "go"
          refine ⟨_, _, _, rfl, sl64 (by rw [ill_len]; (exact zq1 hN)), rfl, idx_ill rfl hi, ?_⟩
          wtm_at "go"
          refine ⟨_, _, _, rfl, sl64 (by rw [List.length_map, (hR2 _ hi).1]; (exact zq1 hN)), rfl, idx_cf' rfl (by rw [(hR2 _ hi).1]; exact hk), ?_⟩
          wtm_at "go"
          refine ⟨_, _, _, rfl, rfl, io_mul (mulOk (a := 30) (b := 30) (sz30 hp30 pj.1 pj.2) (sz30 hp30 (by (exact zq5)) (by (exact zq27 hr))) (by decide) (by decide)), ?_⟩
          wtm_at "go"
          refine ⟨_, _, _, rfl, rfl, io_mod p0, ?_⟩
          refine ⟨trivial, ?_⟩
          wtm_at "as"
          have hclear : (p : Int) ∣ Law.cf (R2 j) k - (Law.cf (R2 j) k * r).fmod p * v := Law.clear hinv
          have offr := fmod_rng p2 (Law.cf (R2 j) k * r)
          generalize hoff : (Law.cf (R2 j) k * r).fmod p = off at hclear offr ⊢
          refine hss_one ?_
          wtm_at "if"
          wtm_at "go"
          by_cases ho : off = 0
          · refine ite_nf ho ?_
            refine hss_nil ?_
            refine ⟨R2, _, _, hR2, inv2, hRk, fun j' h1 h2 h3 => ?_, rfl, rfl⟩
            by_cases q : j' = j
            · subst q
              rw [ho, Int.zero_mul, Int.sub_zero] at hclear
              exact Law.small_zero hclear pj.1 pj.2
            · exact hcl j' h1 (by (exact zq152 hj h2 q)) h3
          · refine ite_nt ho ?_
            refine hss_one ?_
            refine hs_set (by wtm_at "ats") (by wtm_at "full") ?_
            wtm_at "an"
            refine hn_comp (by wtm_at "scok") (by wtm_at "cap") (hi_zip ?_ (by wtm_at "mem") h3 (by wtm_at "plain"))
            wtm_at "go"
            refine ⟨_, _, _, rfl, sl64 (by rw [ill_len]; (exact zq1 hN)), rfl, idx_ill rfl hi, ?_⟩
            wtm_at "go"
            refine ⟨_, _, _, rfl, sl64 (by rw [ill_len]; (exact zq1 hN)), rfl, idx_ill rfl hk, ?_⟩
            refine ⟨_, _, rfl, rfl, ?_⟩
            have zl : (zips (il (R2 j)) (il (R2 k))).length = N := by simp [zips, (hR2 j hi).1, (hR2 k hk).1]
            refine comp_map (fun c => .int ((Law.cf (R2 j) c - off * Law.cf (R2 k) c).fmod p)) (by rw [zl]; (exact zq408 hN zl)) (fun c t ht => ?_) ?_
            · obtain ⟨hc1, hc2, rfl⟩ := zips_at ht
              rw [(hR2 j hi).1] at hc1
              have pc := hR2.cf hk hc1
              refine ⟨_, .two (by wtm_at "sat") rfl (by wtm_at "sat") rfl, fun env X => ?_⟩
              wtm_at "go"
              refine ⟨_, _, _, rfl, rfl, io_mul (mulOk (a := 30) (b := 30) (sz30 hp30 offr.1 offr.2) (sz30 hp30 pc.1 pc.2) (by decide) (by decide)), ?_⟩
              wtm_at "go"
              exact ⟨_, _, _, rfl, rfl, io_mod p0, rfl, rfl⟩
            · rw [zl]
              have eL : ((List.range N).map fun c => PV.int ((Law.cf (R2 j) c - off * Law.cf (R2 k) c).fmod p)) = il ((List.range N).map fun c => (Law.cf (R2 j) c - off * Law.cf (R2 k) c).fmod p) := by simp [il]
              rw [eL]
              generalize hnew : ((List.range N).map fun c => (Law.cf (R2 j) c - off * Law.cf (R2 k) c).fmod p) = new
              refine ⟨_, rfl, flat_il, ?_⟩
              wtm_at "go"
              rw [show ((j : Nat) : Int).toNat = j by simp, ill_set]
              refine ⟨by (exact zq5), by rw [ill_len]; (exact zq530 hi zl), by omega, _, (by wtm_at "set"), rfl, ?_⟩
              have cfn : ∀ c, c < N → Law.cf new c = (Law.cf (R2 j) c - off * Law.cf (R2 k) c).fmod p := fun c hc => by
                rw [← hnew, Law.cf_range, if_pos hc]
              have rn : new.length = N ∧ ∀ x ∈ new, 0 ≤ x ∧ x < p := by
                subst hnew
                refine ⟨by simp, fun x hx => ?_⟩
                obtain ⟨c, _, rfl⟩ := List.mem_map.mp hx
                exact fmod_rng p2 _
              refine ⟨_, _, _, hR2.upd rn, inv2.elim hkj hi (off := off) fun c _ hc => ?_, ?_, fun j' g1 g2 g3 => ?_, rfl, rfl⟩
              · rw [cfn c hc]; exact Law.fmod_dvd _ _
              · unfold Law.upd
                rw [if_neg (by (exact zq517 hj hkj))]; exact hRk
              · unfold Law.upd
                by_cases q : j' = j
                · rw [if_pos q, cfn k hk, hRk, hv]
                  exact Law.fmod_zero hclear
                · rw [if_neg q]; exact hcl j' g1 (by (exact zq152 hj g2 q)) g3
        · rintro τ D4 ⟨R2, v2, v5, hR2, inv2, hRk, hcl, rfl, rfl⟩
          rw [show (il (upto ((k : Int) + 1) (N : Int))).length = N - (k + 1) by rw [upto_len]; (exact zq435 hk)] at hcl
          refine ⟨R2, f2, _, _, _, _, _, hR2, hf2r, inv2.next hk (fun i h1 h2 => hcl i h1 (by (exact zq555 hk h2)) h2) (by rw [hRk]; exact hf2.symm), rfl, rfl⟩
  · rintro τ D' ⟨R, f, v1, v2, v3, v4, v5, hR, hf, inv, rfl, rfl⟩
    rw [show (il (upto 0 (N : Int))).length = N by rw [upto_len]; (exact zq300 hN)] at inv
    refine hss_one ?_
    wtm_at "ret"
    wtm_at "go"
    refine ⟨_, _, _, rfl, rfl, io_mod p0, ?_⟩
    rw [inv.fin]
    exact post
end
section
variable {prog : Program} {w : World} {g₀ : Heap} {mg : Str → Option Value} (V : View g₀ mg) (d : Option Addr)

theorem mrow_len (a b : List Int) (r : Nat) : (mrow a b r).length = a.length - 1 + (b.length - 1) := by simp [mrow]
theorem mat_cf {a b : List Int} (ha : a ≠ []) (hb : b ≠ []) {N r c : Nat} (hN : N = a.length - 1 + (b.length - 1)) (hr : r < N) (hc : c < N) :
    Law.cf (mrow a b r) c = if r < b.length - 1 then Law.sh (b.length - 1 - 1 - r) (Law.cf a) (N - 1 - c) else Law.sh (a.length - 1 - 1 - (r - (b.length - 1))) (Law.cf b) (N - 1 - c) := by
  have hal := List.length_pos_iff.mpr ha
  have hbl := List.length_pos_iff.mpr hb
  unfold mrow
  rw [Law.cf_range, if_pos (by (exact zq634 hN hc))]
  unfold ment
  by_cases h : r < b.length - 1
  · simp only [if_pos h]
    unfold Law.sh
    by_cases h1 : r ≤ c ∧ c < r + a.length
    · rw [if_pos h1, if_neg (by (exact zq644 hN hc hal hbl h1)), show N - 1 - c - (b.length - 1 - 1 - r) = a.length - 1 - (c - r) by (exact zq642 hN hc hal hbl h h1)]; rfl
    · rw [if_neg h1]
      by_cases h2 : c < r
      · rw [if_neg (by (exact zq645 hN hc hal hbl h1 h2)), Law.cf_ge (by (exact zq649 hN hr hc hal hbl h h1 h2))]
      · rw [if_pos (by (exact zq643 hN hc hal hbl h h1 h2))]
  · simp only [if_neg h]
    unfold Law.sh
    by_cases h1 : r - (b.length - 1) ≤ c ∧ c < r - (b.length - 1) + b.length
    · rw [if_pos h1, if_neg (by (exact zq638 hN hc hal hbl h h1)), show N - 1 - c - (a.length - 1 - 1 - (r - (b.length - 1))) = b.length - 1 - (c - (r - (b.length - 1))) by (exact zq641 hN hr hc hal hbl h h1)]; rfl
    · rw [if_neg h1]
      by_cases h2 : c < r - (b.length - 1)
      · rw [if_neg (by (exact zq639 hN hc hal hbl h h1 h2)), Law.cf_ge (by (exact zq650 hN hr hc hal hbl h h1 h2))]
      · rw [if_pos (by (exact zq640 hN hc hal hbl h h1 h2))]
theorem mat_det {a b : List Int} (ha : a ≠ []) (hb : b ≠ []) (h1 : 1 ≤ a.length - 1 + (b.length - 1)) : Law.minor (a.length - 1 + (b.length - 1)) 0 (mrow a b) = Law.Res a b :=
  Law.det_matrix rfl h1 fun r c hr hc => mat_cf ha hb rfl hr hc

theorem pad_cf (l : List Int) (i k c : Nat) : Law.cf (List.replicate i 0 ++ l.reverse ++ List.replicate k 0) c = if i ≤ c ∧ c < i + l.length then l.getD (l.length - 1 - (c - i)) 0 else 0 := by
  unfold Law.cf
  simp only [List.getD_eq_getElem?_getD]
  by_cases h1 : c < i
  · rw [if_neg (by (exact zq59 h1)), List.append_assoc, List.getElem?_append_left (by simpa using h1), List.getElem?_replicate, if_pos h1]; rfl
  · by_cases h2 : c < i + l.length
    · rw [if_pos ⟨by (exact zq2 h1), h2⟩, List.getElem?_append_left (by simp; (exact zq533 h2)), List.getElem?_append_right (by simp; (exact zq2 h1)), List.getElem?_reverse (by simp; (exact zq588 h1 h2))]
      simp
    · rw [if_neg (by (exact zq591 h2)), List.getElem?_append_right (by simp; (exact zq592 h2)), List.getElem?_replicate]
      split <;> rfl

theorem syl_mat {a b : List Int} (ha : a ≠ []) (hb : b ≠ []) :
    ((List.range (b.length - 1)).map fun i => PV.list (il (List.replicate i 0 ++ a.reverse ++ List.replicate (b.length - 1 - 1 - i) 0))) ++
      ((List.range (a.length - 1)).map fun i => PV.list (il (List.replicate i 0 ++ b.reverse ++ List.replicate (a.length - 1 - 1 - i) 0))) = ill ((List.range (a.length - 1 + (b.length - 1))).map (mrow a b)) := by
  have hal := List.length_pos_iff.mpr ha
  have hbl := List.length_pos_iff.mpr hb
  show _ = List.map (fun r => PV.list (il r)) (List.map (mrow a b) (List.range (a.length - 1 + (b.length - 1))))
  rw [List.map_map, Nat.add_comm (a.length - 1), List.range_add, List.map_append, List.map_map]
  congr 1
  · refine List.map_congr_left fun i hi => ?_
    have hi := List.mem_range.mp hi
    show _ = PV.list (il (mrow a b i))
    congr 2
    refine eq_of_cf (by rw [mrow_len]; simp; (exact zq498 hal hbl hi)) fun c => ?_
    rw [pad_cf]
    unfold mrow
    rw [Law.cf_range]
    by_cases hc : c < a.length - 1 + (b.length - 1)
    · rw [if_pos hc]; unfold ment; simp only [if_pos hi]
    · rw [if_neg hc, if_neg (by (exact zq596 hal hi hc))]
  · refine List.map_congr_left fun i hi => ?_
    have hi := List.mem_range.mp hi
    show _ = PV.list (il (mrow a b (b.length - 1 + i)))
    congr 2
    refine eq_of_cf (by rw [mrow_len]; simp; (exact zq499 hal hbl hi)) fun c => ?_
    rw [pad_cf]
    unfold mrow
    rw [Law.cf_range]
    by_cases hc : c < a.length - 1 + (b.length - 1)
    · rw [if_pos hc]; unfold ment; simp only [if_neg (show ¬ b.length - 1 + i < b.length - 1 by (exact zq351)), show b.length - 1 + i - (b.length - 1) = i by (exact zq345)]
    · rw [if_neg hc, if_neg (by (exact zq597 hbl hi hc))]

include V
/-- both constant -/
theorem fs_row1 : FS prog w g₀ mg d "row_resultant" 6 fun ts D Post => ts = [.list (il [1]), .list (il [1]), .int 1] ∧ Post (.int 1) D := by
  refine fs_of d (V.defs _ _ _ _ rfl rfl rfl) (xs := ["a", "b", "sign"]) (by wtm_at "ok3") ?_
  rintro A env X ts D Post R ⟨rfl, post⟩
  refine ⟨rfl, [.val (.list (il [1])), .val (.list (il [1])), .val (.int 1), .no, .no, .no, .no, .no, .no, .no, .no, .no], (by wtm_at "ini"), ?_⟩
  refine hss_cons ?_
  wtm_at "tup2"
  wtm_at "ab"
  wtm_at "go"
  wtm_at "as2"
  refine hss_cons ?_
  refine hs_while (fun l τ D' => D' = D ∧ τ = [.val (.list (il [1])), .val (.list (il [1])), .val (.int 1), .val (.int 1), .val (.int 1), .no, .no, .no, .no, .no, .no, .no]) 0 ⟨rfl, rfl⟩ ?_
  rintro l τ D' ⟨rfl, rfl⟩
  refine ⟨_, (by wtm_at "full"), ?_⟩
  wtm_at "hx"
  refine he_call (fs_zdegree V d) (R.le (by decide)) ?_ (by wtm_at "mem") rfl (by wtm_at "plain")
  wtm_at "go"
  refine ⟨by decide, ?_⟩
  wtm_at "go"
  refine ite_f (by decide) ?_
  refine hss_cons ?_
  wtm_at "if"
  wtm_at "hx"
  wtm_at "hx"
  refine HN.he (hn_lst ?_)
  wtm_at "go"
  refine ⟨_, co_eqL (y := []), ?_⟩
  refine ite_f (by decide) ?_
  refine hss_nil ?_
  refine hss_cons ?_
  wtm_at "let"
  wtm_at "ab"
  refine he_call (fs_zdegree V d) (R.le (by decide)) ?_ (by wtm_at "mem") rfl (by wtm_at "plain")
  wtm_at "go"
  refine ⟨by decide, ?_⟩
  wtm_at "as"
  refine hss_one ?_
  wtm_at "ret"
  wtm_at "go"
  refine ite_f (by decide) ?_
  wtm_at "go"
  exact ⟨_, _, _, rfl, rfl, io_mul (IntMulOk.of_right (by decide)), post⟩

theorem fs_res57 : FS prog w g₀ mg d "resultant" 7 fun ts D Post => ts = [.list (il [5]), .list (il [7])] ∧ Post (.int 1) D := by
  refine fs_of d (V.defs _ _ _ _ rfl rfl rfl) (xs := ["a", "b"]) (by wtm_at "ok2") ?_
  rintro A env X ts D Post R ⟨rfl, post⟩
  refine ⟨rfl, [.val (.list (il [5])), .val (.list (il [7])), .no, .no, .no, .no, .no, .no, .no, .no], (by wtm_at "ini"), ?_⟩
  refine hss_cons ?_
  wtm_at "if"
  refine ht_or ?_
  wtm_at "hx"
  wtm_at "hx"
  refine HN.he (hn_lst ?_)
  wtm_at "go"
  refine ⟨_, co_eqL (y := []), ?_⟩
  refine ite_f (by decide) ?_
  wtm_at "hx"
  wtm_at "hx"
  refine HN.he (hn_lst ?_)
  wtm_at "go"
  refine ⟨_, co_eqL (y := []), ?_⟩
  refine ite_f (by decide) ?_
  refine hss_nil ?_
  refine hss_cons ?_
  wtm_at "let"
  wtm_at "ab"
  wtm_at "go"
  wtm_at "as"
  refine hss_cons ?_
  wtm_at "if"
  wtm_at "hx"
  refine he_call (fs_zdegree V d) (R.le (by decide)) ?_ (by wtm_at "mem") rfl (by wtm_at "plain")
  wtm_at "go"
  refine ⟨by decide, ?_⟩
  refine he_call (fs_zdegree V d) (R.le (by decide)) ?_ (by wtm_at "mem") rfl (by wtm_at "plain")
  wtm_at "go"
  refine ⟨by decide, ?_⟩
  wtm_at "go"
  refine ite_f (by decide) ?_
  refine hss_nil ?_
  refine hss_cons ?_
  wtm_at "tup2"
  wtm_at "ab"
  wtm_at "hx"
  wtm_at "hx"
  refine he_call (fs_zcontent V d) (R.le (by decide)) ?_ (by wtm_at "mem") rfl (by wtm_at "plain")
  wtm_at "go"
  refine he_call (fs_zcontent V d) (R.le (by decide)) ?_ (by wtm_at "mem") rfl (by wtm_at "plain")
  wtm_at "go"
  wtm_at "as2"
  rw [show Law.gcdAll [5] = 5 by decide, show Law.gcdAll [7] = 7 by decide]
  refine hss_cons ?_
  wtm_at "let"
  wtm_at "ab"
  wtm_at "hx"
  wtm_at "hx"
  wtm_at "hx"
  refine he_call (fs_zdegree V d) (R.le (by decide)) ?_ (by wtm_at "mem") rfl (by wtm_at "plain")
  wtm_at "go"
  refine ⟨by decide, ?_⟩
  refine ⟨_, _, _, rfl, rfl, io_pow (by decide) (by decide), ?_⟩
  wtm_at "hx"
  wtm_at "hx"
  refine he_call (fs_zdegree V d) (R.le (by decide)) ?_ (by wtm_at "mem") rfl (by wtm_at "plain")
  wtm_at "go"
  refine ⟨by decide, ?_⟩
  refine ⟨_, _, _, rfl, rfl, io_pow (by decide) (by decide), ?_⟩
  refine ⟨_, _, _, rfl, rfl, io_mul (IntMulOk.of_right (by decide)), ?_⟩
  wtm_at "as"
  refine hss_one ?_
  wtm_at "ret"
  wtm_at "hx"
  wtm_at "hx"
  refine he_call (fs_row1 V d) R ?_ (by wtm_at "mem") rfl (by wtm_at "plain")
  refine hls_cons ?_
  refine he_call (fs_divided V d) (R.le (by decide)) ?_ (by wtm_at "mem") rfl (by wtm_at "plain")
  wtm_at "go"
  refine ⟨[5], _, 10, rfl, by decide, by decide, by show _ < _; decide, by (exact zq63), ?_⟩
  refine hls_cons ?_
  refine he_call (fs_divided V d) (R.le (by decide)) ?_ (by wtm_at "mem") rfl (by wtm_at "plain")
  wtm_at "go"
  refine ⟨[7], _, 10, rfl, by decide, by decide, by show _ < _; decide, by (exact zq63), ?_⟩
  wtm_at "go"
  refine ⟨rfl, ?_⟩
  exact ⟨_, _, _, rfl, rfl, io_mul (IntMulOk.of_right (by decide)), post⟩
end
section
variable {prog : Program} {w : World} {g₀ : Heap} {mg : Str → Option Value} (V : View g₀ mg) (d : Option Addr)

theorem matPV (a b : List Int) : ((List.range (a.length - 1 + (b.length - 1))).map fun r => PV.list (il (mrow a b r))) = ill ((List.range (a.length - 1 + (b.length - 1))).map (mrow a b)) := by
  simp [ill]
theorem szl_of {l : List Int} {M : Nat} (h : ∀ x ∈ l, x.natAbs ≤ 2 ^ M) : SzL (M + 1) l := fun x hx => by
  have := h x hx
  show _ < _
  rw [Nat.pow_succ]
  have : 0 < 2 ^ M := Nat.pow_pos (by decide)
  (exact zq194 (by assumption) this)

inductive Ph_pair  (ts : List PV) (D : Int × Int) (Post : PV → Int × Int → Prop) : Prop
  | mk (a b : List Int) (q1 : ts = [.list (il a), .list (il b)]) (q2 : Law.Norm a) (q3 : Law.Norm b) (q4 : 2 ≤ a.length) (q5 : a.length ≤ 5) (q6 : 2 ≤ b.length) (q7 : b.length ≤ 5) (q8 : (∀ x ∈ a, x.natAbs ≤ 2 ^ 6)) (q9 : (∀ x ∈ b, x.natAbs ≤ 2 ^ 6)) (q10 : Post (.bool true) D) : Ph_pair ts D Post
include V
theorem fs_pair : FS prog w g₀ mg d "_law_pair_right" 8 Ph_pair := by
  have h1 := V.len
  refine fs_of d (V.defs _ _ _ _ rfl rfl rfl) (xs := ["one", "other"]) (by wtm_at "ok2") ?_
  rintro A env X ts D Post R ⟨a, b, rfl, na, nb, ha2, ha5, hb2, hb5, sa, sb, post⟩
  have ha : a ≠ [] := by rintro rfl; simp at ha2
  have hb : b ≠ [] := by rintro rfl; simp at hb2
  have hres := Law.resultant_eq na nb ha hb (by (exact zq25 ha2 ha5 hb2 hb5))
  have hcomm := Law.resultant_comm na nb ha hb (by (exact zq25 ha2 ha5 hb2 hb5))
  have hcom := Law.common_ok b.length na nb ha (Nat.le_refl _) (fun _ => by (exact zq25 ha2 ha5 hb2 hb5))
  rw [if_neg hb, ← hres] at hcom
  refine ⟨rfl, [.val (.list (il a)), .val (.list (il b)), .no, .no, .no, .no, .no, .no, .no, .no, .no, .no], (by wtm_at "ini"), ?_⟩
  refine hss_cons ?_
  wtm_at "tup3"
  wtm_at "ab"
  wtm_at "go"
  refine ⟨sl64 (by simp; (exact zq85 ha2 ha5)), ?_⟩
  wtm_at "go"
  refine ⟨sl64 (by simp; (exact zq85 hb2 hb5)), ?_⟩
  wtm_at "go"
  refine he_call (fs_resultant V d) R ?_ (by wtm_at "mem") rfl (by wtm_at "plain")
  wtm_at "go"
  refine ⟨a, b, 6, rfl, na, nb, by (exact zq4 ha2 ha5), by (exact zq4 hb2 hb5), .inr (.inr (by (exact zq25 ha2 ha5 hb2 hb5))), sa, sb, by decide, ?_⟩
  wtm_at "go"
  wtm_at "as3"
  rw [show ((il a).length : Int) - 1 = ((a.length - 1 : Nat) : Int) by simp; (exact zq82 ha2 ha5), show ((il b).length : Int) - 1 = ((b.length - 1 : Nat) : Int) by simp; (exact zq82 hb2 hb5)]
  refine hss_cons ?_
  wtm_at "if"
  wtm_at "hx"
  refine he_call (fs_sylvester V d) (R.le (by decide)) ?_ (by wtm_at "mem") rfl (by wtm_at "plain")
  wtm_at "go"
  refine ⟨a, b, rfl, ha, hb, by (exact zq12 ha2 ha5), by (exact zq12 hb2 hb5), ?_⟩
  rw [syl_mat ha hb]
  refine he_call (fs_matrix V d) (R.le (by decide)) ?_ (by wtm_at "mem") rfl (by wtm_at "plain")
  wtm_at "go"
  refine ⟨a, b, rfl, ha, hb, by (exact zq12 ha2 ha5), by (exact zq12 hb2 hb5), ?_⟩
  rw [matPV]
  refine ⟨_, co_neLL, ?_⟩
  refine ite_ff ?_
  refine hss_nil ?_
  refine hss_cons ?_
  refine hs_for (his_base (by wtm_at "base") fun X => hi_tuple ?_)
  wtm_at "go"
  refine ⟨fun i τ D' => ∃ v, D' = D ∧ τ = [.val (.list (il a)), .val (.list (il b)), .val (.int ((a.length - 1 : Nat) : Int)), .val (.int ((b.length - 1 : Nat) : Int)), .val (.int (Law.resultant a b)), v, .no, .no, .no, .no, .no, .no],
    ⟨.no, rfl, rfl⟩, ?_, ?_⟩
  · rintro i t τ D' ht ⟨v, rfl, rfl⟩
    have ht' : ∃ p : Nat, t = .int p ∧ Law.IsP p ∧ p < 2 ^ 30 := by
      match i, ht with
      | 0, ht => cases ht; exact ⟨10007, rfl, Law.isP1, by decide⟩
      | 1, ht => cases ht; exact ⟨1000003, rfl, Law.isP2, by decide⟩
      | 2, ht => cases ht; exact ⟨998244353, rfl, Law.isP3, by decide⟩
    obtain ⟨p, rfl, pr, hp⟩ := ht'
    have p2 := pr.1
    refine ⟨_, .name (by wtm_at "set") (.inl rfl), fun X => ?_⟩
    refine hss_one ?_
    wtm_at "if"
    wtm_at "go"
    refine ⟨_, _, _, rfl, rfl, io_mod (by (exact zq125 hp p2)), ?_⟩
    refine he_call (fs_determinant V d) (R.le (by decide)) ?_ (by wtm_at "mem") rfl (by wtm_at "plain")
    refine hls_cons ?_
    refine he_call (fs_matrix V d) (R.le (by decide)) ?_ (by wtm_at "mem") rfl (by wtm_at "plain")
    wtm_at "go"
    refine ⟨a, b, rfl, ha, hb, by (exact zq12 ha2 ha5), by (exact zq12 hb2 hb5), ?_⟩
    rw [matPV]
    wtm_at "go"
    refine ⟨_, p, mrow a b, rfl, pr, hp, by (exact zq363 ha2 ha5 hb2 hb5), fun i hi => mrow_len a b i, ?_⟩
    rw [mat_det ha hb (by (exact zq369 hb2 hb5)), ← hres]
    wtm_at "go"
    refine ite_nf rfl ?_
    refine hss_nil ?_
    exact ⟨_, rfl, rfl⟩
  · rintro τ D' ⟨v, rfl, rfl⟩
    refine hss_cons ?_
    wtm_at "if"
    wtm_at "hx"
    refine he_call (fs_resultant V d) R ?_ (by wtm_at "mem") rfl (by wtm_at "plain")
    wtm_at "go"
    refine ⟨b, a, 6, rfl, nb, na, by (exact zq4 hb2 hb5), by (exact zq4 ha2 ha5), .inr (.inr (by (exact zq370 ha2 ha5 hb2 hb5))), sb, sa, by decide, ?_⟩
    wtm_at "go"
    refine ⟨_, _, _, rfl, rfl, io_mul (mulOk (a := 10) (b := 10) (by show _ < _; simp; (exact zq84 ha2 ha5)) (by show _ < _; simp; (exact zq84 hb2 hb5)) (by decide) (by decide)), ?_⟩
    wtm_at "go"
    refine ⟨_, _, _, rfl, rfl, io_mod (by decide), ?_⟩
    wtm_at "go"
    have e1 : (((a.length - 1 : Nat) : Int) * ((b.length - 1 : Nat) : Int)).fmod 2 = (((a.length - 1) * (b.length - 1) % 2 : Nat) : Int) := by
      rw [← Int.natCast_mul, Int.fmod_eq_emod_of_nonneg _ (by decide)]; (exact zq337)
    rw [e1, hcomm]
    generalize hq : (a.length - 1) * (b.length - 1) % 2 = q
    have hq2 : q < 2 := by rw [← hq]; exact Nat.mod_lt _ (by decide)
    by_cases q1 : q = 1
    · refine ite_t (by (exact zq92 q1)) ?_
      wtm_at "go"
      refine ite_nf (by rw [if_pos q1]) ?_
      refine hss_nil ?_
      refine hss_one ?_
      wtm_at "ret"
      wtm_at "go"
      refine he_call (fs_common V d) (R.le (by decide)) ?_ (by wtm_at "mem") rfl (by wtm_at "plain")
      wtm_at "go"
      refine ⟨a, b, 7, rfl, na, nb, ha, ha5, hb5, szl_of sa, szl_of sb, by decide, ?_⟩
      refine ⟨_, co_eqb, ?_⟩
      have : (decide (Law.resultant a b = 0) == Law.common b.length a b) = true := by
        rw [beq_iff_eq]
        by_cases z : Law.resultant a b = 0
        · rw [hcom.mpr z, decide_eq_true z]
        · rw [decide_eq_false z]; exact (Bool.eq_false_iff.mpr fun x => z (hcom.mp x)).symm
      rw [this]
      exact post
    · refine ite_f (by (exact zq103 q1)) ?_
      wtm_at "go"
      refine ite_nf (by rw [if_neg q1]) ?_
      refine hss_nil ?_
      refine hss_one ?_
      wtm_at "ret"
      wtm_at "go"
      refine he_call (fs_common V d) (R.le (by decide)) ?_ (by wtm_at "mem") rfl (by wtm_at "plain")
      wtm_at "go"
      refine ⟨a, b, 7, rfl, na, nb, ha, ha5, hb5, szl_of sa, szl_of sb, by decide, ?_⟩
      refine ⟨_, co_eqb, ?_⟩
      have : (decide (Law.resultant a b = 0) == Law.common b.length a b) = true := by
        rw [beq_iff_eq]
        by_cases z : Law.resultant a b = 0
        · rw [hcom.mpr z, decide_eq_true z]
        · rw [decide_eq_false z]; exact (Bool.eq_false_iff.mpr fun x => z (hcom.mp x)).symm
      rw [this]
      exact post
end
section
variable {prog : Program} {w : World} {g₀ : Heap} {mg : Str → Option Value} (V : View g₀ mg)

theorem sum_nonneg : ∀ {l : List Int}, (∀ x ∈ l, 0 ≤ x) → 0 ≤ l.sum
  | [], _ => Int.le_refl 0
  | a :: l, h => by
    rw [List.sum_cons]
    have h1 := h a List.mem_cons_self
    have h2 := sum_nonneg fun x hx => h x (List.mem_cons_of_mem _ hx)
    (exact zq178 h1 h2)
theorem il_take (l : List Int) (n : Nat) : (il l).take n = il (l.take n) := by simp [il, List.map_take]

include V
theorem draws_call : ∃ fa fd o, mg "_law_draws" = some (.ref fa) ∧ g₀.get? fa = some o ∧ o.data = .func fd ∧
    ∀ (A : Around) (X : Addr → Prop) (s : Shared) (vs : List Value) (script : List Int) (Q : Value → Shared → Prop) (E : Value → Shared → Prop),
      Room A 1 → GOk g₀ mg → (∀ b o, g₀.get? b = some o → s.heap.get? b = some o) → (∀ b, X b → ∃ o, s.heap.get? b = some o) → Reps X s.heap [.list (il script)] vs → script.length ≤ 63 →
      (∀ a D h' tk, DOk D → s.heap.get? a = none → DrawsAt prog w h' a D → (∀ b o, s.heap.get? b = some o → h'.get? b = some o) → Q (.ref a) { s with heap := h', toks := tk }) →
      wpAny (model prog w) A (call (.ref fa) vs) Q E s := by
  have h1 := V.abs
  have h2 := V.sum
  obtain ⟨fa, fd, o, hm, ho, hd, go⟩ := call_raw (prog := prog) (w := w) (n := 0) (mg := mg) none (V.defs "_law_draws" _ _ _ rfl rfl rfl) (xs := ["script"]) (by wtm_at "ok1")
  refine ⟨fa, fd, o, hm, ho, hd, fun A X s vs script Q E R G base live r hlen K => ?_⟩
  refine go A X (0, 0) s vs [.list (il script)] Q E R G base (fun _ q => nomatch q) live r fun env X' Rd => ⟨rfl, [.val (.list (il script)), .no, .no, .no, .no], (by wtm_at "ini"), fun h₁ tk E' _ S => ?_⟩
  refine exec_hx (N := fun τ' D' => D' = (0, 0) ∧ τ' = [.val (.list (il script)), .val (.int 7), .no, .no, .no]) (s := { s with heap := h₁, toks := tk }) S ?_ fun τ' D' ow' h' tk p S' => ?_
  · wtm_at "let"
    wtm_at "ab"
    wtm_at "go"
    wtm_at "as"
    exact ⟨rfl, rfl⟩
  obtain ⟨rfl, rfl⟩ := p
  refine exec_hx (N := fun τ' D' => ∃ (m : Int) (v : SV), 0 ≤ m ∧ D' = (0, 0) ∧ τ' = [.val (.list (il script)), .val (.int m), v, .no, .no]) (s := { s with heap := h', toks := tk }) S' ?_ fun τ' D' ow' h' tk p S' => ?_
  · refine hs_for (his_base (by wtm_at "base") fun X => hi_list ?_)
    refine HN.he (hn_upto (n := 24) ?_ (fun _ _ => by with_unfolding_all rfl))
    wtm_at "go"
    refine ⟨by simp; (exact zq102 hlen), ?_, ?_⟩
    · wtm_at "go"
      exact ⟨rfl, rfl⟩
    wtm_at "go"
    rw [il_take]
    refine ⟨fun i τ D' => ∃ (m : Int) (v : SV), 0 ≤ m ∧ D' = (0, 0) ∧ τ = [.val (.list (il script)), .val (.int m), v, .no, .no], ⟨7, .no, by decide, rfl, rfl⟩, ?_, ?_⟩
    · rintro i t τ D' ht ⟨m, v, hm, rfl, rfl⟩
      obtain ⟨hi, rfl⟩ := il_at ht
      refine ⟨_, .name (by wtm_at "set") (.inl rfl), fun X => ?_⟩
      refine hss_one ?_
      wtm_at "let"
      wtm_at "ab"
      wtm_at "go"
      refine ⟨_, _, _, rfl, rfl, io_mul (IntMulOk.of_right (by decide)), ?_⟩
      wtm_at "go"
      refine ⟨_, _, _, rfl, rfl, io_mod (by decide), ?_⟩
      wtm_at "as"
      exact ⟨_, _, Int.fmod_nonneg_of_pos _ (by decide), rfl, rfl⟩
    · rintro τ D' ⟨m, v, hm, rfl, rfl⟩
      exact ⟨m, v, hm, rfl, rfl⟩
  obtain ⟨m, v, hm, rfl, rfl⟩ := p
  refine wpAny_execs_cons (ret_draws (s := { s with heap := h', toks := tk }) (P := fun x y => 0 ≤ x ∧ 0 ≤ y) rfl (S'.full (Full.self _)) ?_ fun x y a h'' tk'' p ha da kp => ?_)
  · refine he_sum (HN.he (hn_comp (by wtm_at "scok") (by wtm_at "cap") (hi_list ?_))) (by wtm_at "mem") h2 (by wtm_at "plain")
    refine HN.he (hn_upto (n := 24) ?_ (fun _ _ => by with_unfolding_all rfl))
    wtm_at "go"
    refine ⟨by simp; (exact zq102 hlen), ?_, ?_⟩
    · wtm_at "go"
      exact ⟨rfl, rfl⟩
    wtm_at "go"
    rw [il_take]
    refine ⟨sl64 (by simp; (exact zq316 hlen)), fun i D ys => ∃ l : List Int, ys = il l ∧ ∀ x ∈ l, 0 ≤ x, ⟨[], rfl, fun x hx => (nomatch hx)⟩, ?_, ?_⟩
    · rintro i t D2 ys ht ⟨l, rfl, hl⟩
      obtain ⟨hi, rfl⟩ := il_at ht
      refine ⟨_, .name (by wtm_at "sat") rfl, fun env X => ?_⟩
      show HT _ _ _ _ _ _
      wtm_at "go"
      refine ⟨_, _, _, rfl, rfl, io_pow (by decide) (by decide), ?_⟩
      wtm_at "go"
      by_cases hq : (10 : Int) ^ (9 : Int).toNat < (((script.take 24).getD i 0).natAbs : Int)
      rotate_left
      · refine ite_f hq ?_
        exact ⟨Nat.zero_le _, l, by simp, hl⟩
      · refine ite_t hq ?_
        wtm_at "go"
        refine ⟨Nat.le_refl _, l ++ [(((script.take 24).getD i 0).natAbs : Int)], by simp [il], fun x hx => ?_⟩
        rcases List.mem_append.mp hx with q | q
        · exact hl x q
        · rw [List.mem_singleton.mp q]; (exact zq32)
    · rintro D2 ys ⟨l, rfl, hl⟩
      refine ⟨l, rfl, _, rfl, ?_⟩
      wtm_at "go"
      exact ⟨sum_nonneg hl, hm⟩
  · have kk : ∀ b o, s.heap.get? b = some o → h'.get? b = some o := fun b o e => S'.kp b o (fun q => nomatch q) e
    refine K a (x, y) h'' tk'' p ?_ da fun b o e => kp b o (kk b o e)
    cases e : s.heap.get? a with
    | none => rfl
    | some o => have := kk a o e; rw [ha] at this; cases this
end
section
variable {prog : Program} {w : World} {g₀ : Heap} {mg : Str → Option Value} (V : View g₀ mg) (a : Addr)

theorem lmul_lin (u v : Int) (f : List Int) : lmul f [u, v] = Law.lmul1 u v f := by
  unfold lmul Law.lmul1
  refine List.map_congr_left fun i _ => ?_
  exact (Law.lin_cm u v f i).symm
theorem lmul1_bound {u v : Int} {f : List Int} {U W M : Nat} (hu : u.natAbs ≤ U) (hv : v.natAbs ≤ W) (h : ∀ x ∈ f, x.natAbs ≤ M) : ∀ x ∈ Law.lmul1 u v f, x.natAbs ≤ U * M + W * M := fun x hx => by
  unfold Law.lmul1 at hx
  obtain ⟨i, hi, rfl⟩ := List.mem_map.mp hx
  have hc : ∀ j, (Law.cf f j).natAbs ≤ M := fun j => by
    by_cases q : j < f.length
    · exact h _ (Law.cf_mem q)
    · rw [Law.cf_ge (by (exact zq2 q))]; simp
  have hs : (Law.sh 1 (Law.cf f) i).natAbs ≤ M := by
    unfold Law.sh
    split
    · simp
    · exact hc _
  unfold Law.lin
  refine Nat.le_trans (Int.natAbs_add_le _ _) ?_
  rw [Int.natAbs_mul, Int.natAbs_mul]
  exact Nat.add_le_add (Nat.mul_le_mul hu (hc i)) (Nat.mul_le_mul hv hs)
theorem disc_sz {f : List Int} {M : Nat} (hf : Law.Norm f) (h2 : 2 ≤ f.length) (h6 : f.length ≤ 6) (hM : M ≤ 50) (sf : ∀ x ∈ f, x.natAbs ≤ 2 ^ M) : Sz 650 (Law.disc f) := by
  have hfne : f ≠ [] := by rintro rfl; simp at h2
  have dne : Law.derive f ≠ [] := by intro q; have := Law.derive_len f; rw [q] at this; simp at this; (exact zq288 h2 h6 this)
  have h := Law.disc_eq hf h2
  rw [Law.resultant_eq hf (Law.derive_norm hf) hfne dne (by rw [Law.derive_len]; (exact zq281 h2 h6))] at h
  have hr : Sz 650 (Law.Res f (Law.derive f)) := res_sz h6 (by rw [Law.derive_len]; (exact zq87 h2 h6)) (by (exact zq96 hM) : M + 3 ≤ 60) (fun x hx => Nat.le_trans (sf x hx) (Nat.pow_le_pow_right (by decide) (by (exact zq36)))) (derive_le (by (exact zq88 h2 h6)) sf)
  rw [← h] at hr
  have h3 : Sz 650 (Law.lead f * Law.disc f) := by
    rw [Int.mul_comm]
    split at hr
    · rw [Int.mul_neg, Int.mul_one] at hr
      have := hr.neg
      rwa [Int.neg_neg] at this
    · rwa [Int.mul_one] at hr
  exact Sz.of_mul (hf hfne) h3

theorem idx_end {l : List Int} (h : l ≠ []) : idx (il l) (-1) = some (.int (Law.lead l)) := by
  have hl := List.length_pos_iff.mpr h
  unfold idx Law.lead
  rw [if_neg (by decide), if_pos (by simp; (exact zq74 hl)), List.getElem?_map, show ((-1 : Int) + ((il l).length : Int)).toNat = l.length - 1 by simp; (exact zq75 hl), cf_at (by (exact zq7 hl))]; rfl
theorem b25 {f : List Int} (fb : ∀ x ∈ f, x.natAbs ≤ 25) {M : Nat} (h : 5 ≤ M) : ∀ x ∈ f, x.natAbs ≤ 2 ^ M := fun x hx => by
  have h1 := fb x hx
  exact Nat.le_trans (Nat.le_trans h1 (by decide : 25 ≤ 2 ^ 5)) (Nat.pow_le_pow_right (by decide) h)

inductive LawI (script : List Int) (a : Addr) (i : Nat) (τ : STs) (D' : Int × Int) : Prop
  | mk (v2 v3 v4 v5 v6 v7 v8 v9 : SV) (q1 : DOk D') (q2 : τ = [.val (.list (il script)), .val (.dd a), v2, v3, v4, v5, v6, v7, v8, v9, .no, .no, .no, .no, .no, .no, .no, .no, .no, .no, .no, .no, .no, .no]) : LawI script a i τ D'
inductive LawN (script p : List Int) (a : Addr) (i : Nat) (v7 v8 v9 : SV) (τ' : STs) (D' : Int × Int) : Prop
  | mk (f g : List Int) (v6 : SV) (q1 : 2 ≤ f.length) (q2 : f.length ≤ 4) (q3 : Law.Norm f) (q4 : (∀ x ∈ f, x.natAbs ≤ 25)) (q5 : 2 ≤ g.length) (q6 : g.length ≤ 5) (q7 : Law.Norm g) (q8 : (∀ x ∈ g, x.natAbs ≤ 25)) (q9 : DOk D') (q10 : τ' = [.val (.list (il script)), .val (.dd a), .val (.int (0 + (i : Int))), .val (.list (il f)), .val (.list (il g)), .val (.list (il p)), v6, v7, v8, v9, .no, .no, .no, .no, .no, .no, .no, .no, .no, .no, .no, .no, .no, .no]) : LawN script p a i v7 v8 v9 τ' D'
include V
set_option maxHeartbeats 2000000 in
theorem law_rest {A : Around} {env : Env} {X : Addr → Prop} (R : Room A 9) {D : Int × Int} (dok : DOk D) {params : Arguments} {body : List Stmt} {scope : Scope} (hdef : vw.theDef "law" = some (params, body, scope)) (script : List Int) :
    HSs { prog := prog, w := w, g₀ := g₀, mg := mg, d := some a, A := A, env := env, X := X } scope.names
      [.val (.list (il script)), .val (.dd a), .no, .no, .no, .no, .no, .no, .no, .no, .no, .no, .no, .no, .no, .no, .no, .no, .no, .no, .no, .no, .no, .no] D body.tail (fun _ _ => False) fun t _ => t = .bool true := by
  have h1 := V.range
  have h2 := V.len
  have e : vw.theDef "law" = some (_, _, _) := rfl
  rw [e] at hdef
  clear e
  cases hdef
  refine hss_cons ?_
  refine hs_for (his_base (by wtm_at "base") fun X => hi_range1 ?_ (by wtm_at "mem") h1 (by wtm_at "plain"))
  wtm_at "go"
  refine ⟨by decide, by decide, ?_⟩
  refine ⟨(LawI script a),
    ⟨.no, .no, .no, .no, .no, .no, .no, .no, dok, rfl⟩, ?_, ?_⟩
  · rintro i t τ D' ht ⟨v2, v3, v4, v5, v6, v7, v8, v9, dok, rfl⟩
    obtain ⟨hi, rfl⟩ := upto_at ht
    refine ⟨_, .name (by wtm_at "set") (.inl rfl), fun X => ?_⟩
    refine hss_cons ?_
    wtm_at "tup3"
    wtm_at "ab"
    wtm_at "hx"
    wtm_at "hx"
    refine he_call (fs_poly V a) (R.le (by decide)) ?_ (by wtm_at "mem") rfl (by wtm_at "plain")
    wtm_at "go"
    refine ⟨by decide, by decide, dok, fun f D1 f2 f3 fb nf dok1 => ?_⟩
    have f3 : f.length ≤ 3 := f3
    wtm_at "hx"
    refine he_call (fs_poly V a) (R.le (by decide)) ?_ (by wtm_at "mem") rfl (by wtm_at "plain")
    wtm_at "go"
    refine ⟨by decide, by decide, dok1, fun g D2 g2 g4 gb ng dok2 => ?_⟩
    have g4 : g.length ≤ 4 := g4
    wtm_at "hx"
    refine he_call (fs_poly V a) (R.le (by decide)) ?_ (by wtm_at "mem") rfl (by wtm_at "plain")
    wtm_at "go"
    refine ⟨by decide, by decide, dok2, fun p D3 p2 p3 pb np dok3 => ?_⟩
    have p3 : p.length ≤ 2 := p3
    wtm_at "go"
    wtm_at "as3"
    clear dok dok1 dok2
    refine hss_cons ?_
    refine HX.mono (N' := (LawN script p a i v7 v8 v9))
      (R' := fun t _ => t = .bool true) ?_ ?_ (fun _ _ h => h)
    · wtm_at "if"
      wtm_at "hx"
      refine he_call (fs_take V a) (R.le (by decide)) ?_ (by wtm_at "mem") rfl (by wtm_at "plain")
      wtm_at "go"
      refine ⟨by decide, by decide, dok3, fun r D4 hr dok4 => ?_⟩
      wtm_at "go"
      by_cases hr0 : r = 0
      · refine ite_t (by (exact zq295 hr0)) ?_
        refine hss_cons ?_
        wtm_at "let"
        wtm_at "an"
        refine hn_lst ?_
        wtm_at "hx"
        wtm_at "hx"
        refine he_call (fs_take V a) (R.le (by decide)) ?_ (by wtm_at "mem") rfl (by wtm_at "plain")
        wtm_at "go"
        refine ⟨by decide, by decide, dok4, fun s0 D5 hs0 dok5 => ?_⟩
        have hs0 : s0 < 7 := hs0
        wtm_at "go"
        refine he_call (fs_take V a) (R.le (by decide)) ?_ (by wtm_at "mem") rfl (by wtm_at "plain")
        wtm_at "go"
        refine ⟨by decide, by decide, dok5, fun s1 D6 hs1 dok6 => ?_⟩
        have hs1 : s1 < 2 := hs1
        wtm_at "go"
        refine ⟨flat_il (l := [(s0 : Int) - 3, 1 + (s1 : Int)]), ?_⟩
        wtm_at "as"
        have sh2 : SzL 10 [(s0 : Int) - 3, 1 + (s1 : Int)] := fun x hx => by
          show x.natAbs < 1024
          simp at hx
          (exact zq196 hs0 hs1 hx)
        refine hss_one ?_
        wtm_at "tup2"
        wtm_at "ab"
        wtm_at "hx"
        wtm_at "hx"
        refine he_call (fs_mul V (some a)) (R.le (by decide)) ?_ (by wtm_at "mem") rfl (by wtm_at "plain")
        wtm_at "go"
        refine ⟨f, [(s0 : Int) - 3, 1 + (s1 : Int)], 10, 10, rfl, (by rintro rfl; simp at f2), by simp, by (exact zq270 f2 f3), by simp, (fun x hx => by show x.natAbs < 1024; have := fb x hx; (exact zq34 this)), sh2, by decide, by decide, ?_⟩
        wtm_at "hx"
        refine he_call (fs_mul V (some a)) (R.le (by decide)) ?_ (by wtm_at "mem") rfl (by wtm_at "plain")
        wtm_at "go"
        refine ⟨g, [(s0 : Int) - 3, 1 + (s1 : Int)], 10, 10, rfl, (by rintro rfl; simp at g2), by simp, by (exact zq81 g2 g4), by simp, (fun x hx => by show x.natAbs < 1024; have := gb x hx; (exact zq34 this)), sh2, by decide, by decide, ?_⟩
        wtm_at "go"
        wtm_at "as2"
        rw [lmul_lin, lmul_lin]
        refine ⟨_, _, _, ?_, ?_, Law.lmul1_norm (by (exact zq89 hs1)) (by rintro rfl; simp at f2) nf, ?_, ?_, ?_, Law.lmul1_norm (by (exact zq89 hs1)) (by rintro rfl; simp at g2) ng, ?_, dok6, rfl⟩
        · rw [Law.lmul1_len]; (exact zq268 f2 f3)
        · rw [Law.lmul1_len]; (exact zq269 f2 f3)
        · exact lmul1_bound (U := 3) (W := 2) (M := 5) (by (exact zq91 hs0)) (by (exact zq90 hs1)) fb
        · rw [Law.lmul1_len]; (exact zq273 g2 g4)
        · rw [Law.lmul1_len]; (exact zq274 g2 g4)
        · exact lmul1_bound (U := 3) (W := 2) (M := 5) (by (exact zq91 hs0)) (by (exact zq90 hs1)) gb
      · refine ite_f (by (exact zq329 hr0)) ?_
        refine hss_nil ?_
        exact ⟨f, g, _, f2, by (exact zq271 f2 f3), nf, fun x hx => by have := fb x hx; (exact zq66 this), g2, by (exact zq40 g2 g4), ng, fun x hx => by have := gb x hx; (exact zq66 this), dok4, rfl⟩
    clear dok3
    rintro τ' D4 ⟨f, g, v6, f2, f4, nf, fb, g2, g5, ng, gb, dok, rfl⟩
    have hp : ∃ u v, p = [u, v] := match p, p2, p3 with
      | [u, v], _, _ => ⟨u, v, rfl⟩
    obtain ⟨u, v, rfl⟩ := hp
    have hv : v ≠ 0 := by have := np (by simp); simpa [Law.lead] using this
    have hu5 : u.natAbs ≤ 5 := pb u (by simp)
    have hv5 : v.natAbs ≤ 5 := pb v (by simp)
    have hfne : f ≠ [] := by rintro rfl; simp at f2
    have hgne : g ≠ [] := by rintro rfl; simp at g2
    have ndf := Law.derive_norm nf
    have ldf := Law.derive_len f
    have dfne : Law.derive f ≠ [] := by intro q; rw [q] at ldf; simp at ldf; (exact zq279 f2 f4 ldf)
    have sdf := derive_le (M := 5) (by (exact zq278 f2 f4)) (b25 fb (Nat.le_refl _))
    -- the pair
    refine hss_cons ?_
    wtm_at "if"
    refine ht_not (ht_call ?_)
    refine he_call (fs_pair V (some a)) (R.le (by decide)) ?_ (by wtm_at "mem") rfl (by wtm_at "plain")
    wtm_at "go"
    refine ⟨f, g, rfl, nf, ng, f2, by (exact zq40 f2 f4), g2, g5, b25 fb (by decide), b25 gb (by decide), ?_⟩
    refine ⟨true, rfl, ?_⟩
    refine ite_ff ?_
    refine hss_nil ?_
    -- a product
    have pb1 : ∀ x ∈ Law.lmul1 u v f, x.natAbs ≤ 2 ^ 8 := fun x hx => Nat.le_trans (lmul1_bound (U := 5) (W := 5) hu5 hv5 fb x hx) (by decide)
    have pb2 : ∀ x ∈ [u, v], x.natAbs ≤ 2 ^ 8 := fun x hx => Nat.le_trans (pb x hx) (by decide)
    have r1 := Law.resultant_eq (Law.lmul1_norm hv hfne nf) ng (by intro q; have := Law.lmul1_len u v f; rw [q] at this; simp at this) hgne (by rw [Law.lmul1_len]; (exact zq112 f2 f4 g2 g5))
    have r2 := Law.resultant_eq nf ng hfne hgne (by (exact zq52 f2 f4 g2 g5))
    have r3 := Law.resultant_eq np ng (by simp) hgne (by simp; (exact zq83 g2 g5))
    have sfg : Sz 650 (Law.resultant f g) := by rw [r2]; exact res_sz (M := 8) (by (exact zq10 f2 f4)) (by (exact zq4 g2 g5)) (by decide) (b25 fb (by decide)) (b25 gb (by decide))
    have spg : Sz 650 (Law.resultant [u, v] g) := by rw [r3]; exact res_sz (M := 8) (by simp) (by (exact zq4 g2 g5)) (by decide) pb2 (b25 gb (by decide))
    have hprod : Law.resultant (Law.lmul1 u v f) g = Law.resultant f g * Law.resultant [u, v] g := by
      rw [r1, r2, r3, Law.mulLin hv _ (Nat.le_refl _) nf ng hfne hgne (by (exact zq52 f2 f4 g2 g5)), Int.mul_comm]
    clear r1 r2 r3
    refine hss_cons ?_
    wtm_at "if"
    wtm_at "hx"
    refine he_call (fs_resultant V (some a)) (R.le (by decide)) ?_ (by wtm_at "mem") rfl (by wtm_at "plain")
    refine hls_cons ?_
    refine he_call (fs_mul V (some a)) (R.le (by decide)) ?_ (by wtm_at "mem") rfl (by wtm_at "plain")
    wtm_at "go"
    refine ⟨f, [u, v], 10, 10, rfl, hfne, by simp, by (exact zq81 f2 f4), by simp, (fun x hx => by show x.natAbs < 1024; have := fb x hx; (exact zq33 this)), (fun x hx => by show x.natAbs < 1024; have := pb x hx; (exact zq34 this)), by decide, by decide, ?_⟩
    rw [lmul_lin]
    wtm_at "go"
    refine ⟨Law.lmul1 u v f, g, 8, rfl, Law.lmul1_norm hv hfne nf, ng, by rw [Law.lmul1_len]; (exact zq275 f2 f4), by (exact zq4 g2 g5), .inr (.inr (by rw [Law.lmul1_len]; (exact zq112 f2 f4 g2 g5))), pb1, b25 gb (by decide), by decide, ?_⟩
    wtm_at "hx"
    refine he_call (fs_resultant V (some a)) (R.le (by decide)) ?_ (by wtm_at "mem") rfl (by wtm_at "plain")
    wtm_at "go"
    refine ⟨f, g, 8, rfl, nf, ng, by (exact zq10 f2 f4), by (exact zq4 g2 g5), .inr (.inr (by (exact zq52 f2 f4 g2 g5))), b25 fb (by decide), b25 gb (by decide), by decide, ?_⟩
    refine he_call (fs_resultant V (some a)) (R.le (by decide)) ?_ (by wtm_at "mem") rfl (by wtm_at "plain")
    wtm_at "go"
    refine ⟨[u, v], g, 8, rfl, np, ng, by simp, by (exact zq4 g2 g5), .inr (.inr (by simp; (exact zq83 g2 g5))), pb2, b25 gb (by decide), by decide, ?_⟩
    refine ⟨_, _, _, rfl, rfl, io_mul (mulOk sfg spg (by decide) (by decide)), ?_⟩
    wtm_at "go"
    refine ite_nf hprod ?_
    refine hss_nil ?_
    -- a number
    refine hss_cons ?_
    wtm_at "tup2"
    wtm_at "ab"
    wtm_at "go"
    refine he_call (fs_take V a) (R.le (by decide)) ?_ (by wtm_at "mem") rfl (by wtm_at "plain")
    wtm_at "go"
    refine ⟨by decide, by decide, dok, fun r D5 hr dok5 => ?_⟩
    have hr : r < 9 := hr
    wtm_at "go"
    refine ⟨sl64 (by simp; (exact zq18 f2 f4)), ?_⟩
    wtm_at "go"
    wtm_at "as2"
    rw [show ((il f).length : Int) - 1 = ((f.length - 1 : Nat) : Int) by simp; (exact zq272 f2 f4)]
    have hnum : ((r : Int) - 4).natAbs ≤ 4 := by (exact zq41 hr)
    generalize (r : Int) - 4 = num at hnum ⊢
    refine hss_cons ?_
    refine HX.mono (N' := fun τ' D' => D' = D5 ∧ 
      τ' = [.val (.list (il script)), .val (.dd a), .val (.int (0 + (i : Int))), .val (.list (il f)), .val (.list (il g)), .val (.list (il [u, v])), v6, .val (.int num), .val (.int ((f.length - 1 : Nat) : Int)), v9, .no, .no, .no, .no, .no, .no, .no, .no, .no, .no, .no, .no, .no, .no])
      (R' := fun t _ => t = .bool true) ?_ ?_ (fun _ _ h => h)
    · wtm_at "if"
      refine ht_and ?_
      wtm_at "go"
      by_cases hn0 : num = 0
      · refine ite_nf hn0 ?_
        refine ite_ff ?_
        refine hss_nil ?_
        exact ⟨rfl, rfl⟩
      · refine ite_nt hn0 ?_
        have nn : Law.Norm [num] := fun _ => hn0
        have sn : ∀ x ∈ [num], x.natAbs ≤ 2 ^ 8 := fun x hx => by rw [List.mem_singleton.mp hx]; omega
        wtm_at "hx"
        refine he_call (fs_resultant V (some a)) (R.le (by decide)) ?_ (by wtm_at "mem") rfl (by wtm_at "plain")
        wtm_at "go"
        refine HN.he (hn_lst ?_)
        wtm_at "go"
        refine ⟨f, [num], 8, rfl, nf, nn, by (exact zq10 f2 f4), by simp, .inr (.inr (by simp; (exact zq80 f2 f4))), b25 fb (by decide), sn, by decide, ?_⟩
        wtm_at "go"
        refine ⟨_, _, _, rfl, rfl, io_pow (by (exact zq450 ldf)) (powOk (K := 10) (show _ < _ by omega) (by decide) (by (exact zq333 f2 f4 hn0))), ?_⟩
        wtm_at "go"
        refine ite_nf ?_ ?_
        · rw [Law.resultant_eq nf nn hfne (by simp) (by simp; (exact zq80 f2 f4)), Law.Res_const num f2]; simp
        · refine hss_nil ?_
          exact ⟨rfl, rfl⟩
    rintro τ' D' ⟨rfl, rfl⟩
    -- the sign
    refine hss_cons ?_
    refine HX.mono (N' := fun τ' D2 => D2 = D' ∧ 
      τ' = [.val (.list (il script)), .val (.dd a), .val (.int (0 + (i : Int))), .val (.list (il f)), .val (.list (il g)), .val (.list (il [u, v])), v6, .val (.int num), .val (.int ((f.length - 1 : Nat) : Int)), .val (.int (if (f.length - 1) * (f.length - 1 - 1) / 2 % 2 = 1 then -1 else 1)), .no, .no, .no, .no, .no, .no, .no, .no, .no, .no, .no, .no, .no, .no])
      (R' := fun t _ => t = .bool true) ?_ ?_ (fun _ _ h => h)
    · wtm_at "let"
      wtm_at "ab"
      refine he_ifexp ?_
      wtm_at "go"
      refine ⟨_, _, _, rfl, rfl, io_mul (mulOk (a := 10) (b := 10) (show _ < _ by simp; (exact zq276 f2 f4)) (show _ < _ by omega) (by decide) (by decide)), ?_⟩
      wtm_at "go"
      refine ⟨_, _, _, rfl, rfl, io_div (by decide) (noPy (k := 10) (show _ < _ by decide) (by decide)), ?_⟩
      wtm_at "go"
      refine ⟨_, _, _, rfl, rfl, io_mod (by decide), ?_⟩
      wtm_at "go"
      rw [tri_int (by (exact zq361 f2 f4 ldf))]
      generalize (f.length - 1) * (f.length - 1 - 1) / 2 % 2 = q
      by_cases q1 : q = 1
      · refine ite_t (by (exact zq92 q1)) ?_
        wtm_at "go"
        wtm_at "as"
        rw [if_pos q1]
        exact ⟨rfl, rfl⟩
      · refine ite_f (by (exact zq103 q1)) ?_
        wtm_at "go"
        wtm_at "as"
        rw [if_neg q1]
        exact ⟨rfl, rfl⟩
    rintro τ' D'' ⟨rfl, rfl⟩
    have hdisc := Law.disc_eq nf f2
    have hsg : ∀ sg : Int, sg = (if (f.length - 1) * (f.length - 1 - 1) / 2 % 2 = 1 then -1 else 1) → sg.natAbs ≤ 1 := fun sg h => by rw [h]; split <;> decide
    generalize (if (f.length - 1) * (f.length - 1 - 1) / 2 % 2 = 1 then (-1 : Int) else 1) = sg at hdisc hsg ⊢
    have hsg := hsg sg rfl
    have sd := disc_sz nf f2 (by (exact zq10 f2 f4)) (by decide : 5 ≤ 50) (b25 fb (Nat.le_refl _))
    have sl : Sz 10 (Law.lead f) := by
      have := fb (Law.lead f) (Law.cf_mem (l := f) (i := f.length - 1) (by (exact zq277 f2 f4)))
      show _ < _
      omega
    refine hss_cons ?_
    wtm_at "if"
    wtm_at "go"
    refine he_call (fs_discriminant V (some a)) (R.le (by decide)) ?_ (by wtm_at "mem") rfl (by wtm_at "plain")
    wtm_at "go"
    refine ⟨f, 5, rfl, nf, f2, by (exact zq10 f2 f4), b25 fb (Nat.le_refl _), by decide, ?_⟩
    wtm_at "go"
    refine ⟨_, _, _, rfl, sl64 (by simp; (exact zq18 f2 f4)), rfl, idx_end hfne, ?_⟩
    refine ⟨_, _, _, rfl, rfl, io_mul (mulOk sd sl (by decide) (by decide)), ?_⟩
    wtm_at "go"
    refine ⟨_, _, _, rfl, rfl, io_mul (mulOk (sd.mul sl) (b := 10) (show _ < _ by omega) (by decide) (by decide)), ?_⟩
    refine he_call (fs_resultant V (some a)) (R.le (by decide)) ?_ (by wtm_at "mem") rfl (by wtm_at "plain")
    wtm_at "go"
    refine he_call (fs_derived V (some a)) (R.le (by decide)) ?_ (by wtm_at "mem") rfl (by wtm_at "plain")
    wtm_at "go"
    refine ⟨f, 10, rfl, by (exact zq18 f2 f4), (fun x hx => by show x.natAbs < 1024; have := fb x hx; (exact zq33 this)), by decide, ?_⟩
    wtm_at "go"
    refine ⟨f, Law.derive f, 8, rfl, nf, ndf, by (exact zq10 f2 f4), by (exact zq368 f2 f4 ldf), .inr (.inr (by (exact zq362 f2 f4 ldf))), b25 fb (by decide), sdf, by decide, ?_⟩
    refine ⟨_, co_ne, ?_⟩
    refine ite_nf hdisc ?_
    refine hss_nil ?_
    refine hss_one ?_
    wtm_at "if"
    wtm_at "go"
    refine he_call (fs_discriminant V (some a)) (R.le (by decide)) ?_ (by wtm_at "mem") rfl (by wtm_at "plain")
    wtm_at "go"
    refine ⟨f, 5, rfl, nf, f2, by (exact zq10 f2 f4), b25 fb (Nat.le_refl _), by decide, ?_⟩
    wtm_at "go"
    refine he_call (fs_common V (some a)) (R.le (by decide)) ?_ (by wtm_at "mem") rfl (by wtm_at "plain")
    wtm_at "go"
    refine he_call (fs_derived V (some a)) (R.le (by decide)) ?_ (by wtm_at "mem") rfl (by wtm_at "plain")
    wtm_at "go"
    refine ⟨f, 10, rfl, by (exact zq18 f2 f4), (fun x hx => by show x.natAbs < 1024; have := fb x hx; (exact zq33 this)), by decide, ?_⟩
    wtm_at "go"
    refine ⟨f, Law.derive f, 7, rfl, nf, ndf, hfne, by (exact zq40 f2 f4), by (exact zq367 f2 f4 ldf), (fun x hx => by show x.natAbs < 128; have := fb x hx; (exact zq168 this)), (fun x hx => ?_), by decide, ?_⟩
    · show x.natAbs < 128
      unfold Law.derive at hx
      obtain ⟨j, hj, rfl⟩ := List.mem_map.mp hx
      have hj := List.mem_range.mp hj
      have h3 : (f.getD (j + 1) 0).natAbs ≤ 25 := fb _ (Law.cf_mem (by (exact zq366 f2 f4 hj)))
      rw [Int.natAbs_mul]
      have : (f.getD (j + 1) 0).natAbs * ((j : Int) + 1).natAbs ≤ 25 * 3 := Nat.mul_le_mul h3 (by (exact zq365 f2 f4 hj))
      (exact zq193 this)
    refine ⟨_, co_neb, ?_⟩
    have hz := Law.disc_zero nf f2
    have hc := Law.common_ok (Law.derive f).length nf ndf hfne (Nat.le_refl _) (fun _ => by (exact zq487 f2 f4 ldf hz))
    rw [if_neg dfne, ← Law.resultant_eq nf ndf hfne dfne (by omega)] at hc
    have : (decide (Law.disc f = 0) != Law.common (Law.derive f).length f (Law.derive f)) = false := by
      rw [bne_eq_false_iff_eq]
      by_cases z : Law.disc f = 0
      · rw [decide_eq_true z, hc.mpr (hz.mp z)]
      · rw [decide_eq_false z]; exact (Bool.eq_false_iff.mpr fun x => z (hz.mpr (hc.mp x))).symm
    rw [this]
    refine ite_ff ?_
    refine hss_nil ?_
    exact ⟨_, _, _, _, _, _, _, _, dok5, rfl⟩
  · rintro τ D' ⟨v2, v3, v4, v5, v6, v7, v8, v9, dok, rfl⟩
    refine hss_cons ?_
    wtm_at "tup3"
    wtm_at "ab"
    wtm_at "go"
    refine he_call (fs_take V a) (R.le (by decide)) ?_ (by wtm_at "mem") rfl (by wtm_at "plain")
    wtm_at "go"
    refine ⟨by decide, by decide, dok, fun x D1 hx dok1 => ?_⟩
    have hx : x < 5 := hx
    wtm_at "go"
    refine he_call (fs_take V a) (R.le (by decide)) ?_ (by wtm_at "mem") rfl (by wtm_at "plain")
    wtm_at "go"
    refine ⟨by decide, by decide, dok1, fun y D2 hy dok2 => ?_⟩
    have hy : y < 9 := hy
    wtm_at "go"
    refine he_call (fs_take V a) (R.le (by decide)) ?_ (by wtm_at "mem") rfl (by wtm_at "plain")
    wtm_at "go"
    refine ⟨by decide, by decide, dok2, fun z D3 hz dok3 => ?_⟩
    have hz : z < 9 := hz
    wtm_at "go"
    wtm_at "as3"
    have ha0 : (1 + (x : Int)) ≠ 0 := by (exact zq292 hx)
    have sa : (1 + (x : Int)).natAbs ≤ 5 := by (exact zq293 hx)
    have sb : ((y : Int) - 4).natAbs ≤ 4 := by (exact zq41 hy)
    have sc : ((z : Int) - 4).natAbs ≤ 4 := by (exact zq41 hz)
    generalize 1 + (x : Int) = qa at ha0 sa ⊢
    generalize (y : Int) - 4 = qb at sb ⊢
    generalize (z : Int) - 4 = qc at sc ⊢
    refine hss_cons ?_
    wtm_at "if"
    wtm_at "hx"
    refine he_call (fs_discriminant V (some a)) (R.le (by decide)) ?_ (by wtm_at "mem") rfl (by wtm_at "plain")
    wtm_at "go"
    refine HN.he (hn_lst ?_)
    wtm_at "go"
    refine ⟨[qc, qb, qa], 5, rfl, fun _ => ha0, by simp, by simp, fun t ht => ?_, by decide, ?_⟩
    · simp at ht
      omega
    wtm_at "go"
    refine ⟨_, _, _, rfl, rfl, io_mul (mulOk (a := 10) (b := 10) (show _ < _ by omega) (show _ < _ by omega) (by decide) (by decide)), ?_⟩
    wtm_at "go"
    refine ⟨_, _, _, rfl, rfl, io_mul (mulOk (a := 10) (b := 10) (show _ < _ by decide) (show _ < _ by omega) (by decide) (by decide)), ?_⟩
    wtm_at "go"
    refine ⟨_, _, _, rfl, rfl, io_mul (mulOk (a := 20) (b := 10) (show _ < _ by omega) (show _ < _ by omega) (by decide) (by decide)), ?_⟩
    wtm_at "go"
    refine ite_nf (Law.disc_quad qa qb qc ha0) ?_
    refine hss_nil ?_
    refine hss_one ?_
    wtm_at "ret"
    refine he_and ?_
    wtm_at "hx"
    refine he_call (fs_resultant V (some a)) (R.le (by decide)) ?_ (by wtm_at "mem") rfl (by wtm_at "plain")
    refine hls_cons ?_
    refine HN.he (hn_lst ?_)
    wtm_at "go"
    refine HN.he (hn_lst ?_)
    wtm_at "go"
    refine ⟨[], [1, 1], 8, rfl, fun h => absurd rfl h, fun _ => by decide, by simp, by simp, .inl rfl, fun t ht => (nomatch ht), fun t ht => by simp at ht; omega, by decide, ?_⟩
    rw [show Law.resultant [] [1, 1] = 0 from rfl]
    wtm_at "go"
    refine ite_t rfl ?_
    refine he_and ?_
    wtm_at "hx"
    refine he_call (fs_resultant V (some a)) (R.le (by decide)) ?_ (by wtm_at "mem") rfl (by wtm_at "plain")
    refine hls_cons ?_
    refine HN.he (hn_lst ?_)
    wtm_at "go"
    refine HN.he (hn_lst ?_)
    wtm_at "go"
    refine ⟨[3, 1], [], 8, rfl, fun _ => by decide, fun h => absurd rfl h, by simp, by simp, .inr (.inl rfl), fun t ht => by simp at ht; omega, fun t ht => (nomatch ht), by decide, ?_⟩
    rw [show Law.resultant [3, 1] [] = 0 from rfl]
    wtm_at "go"
    refine ite_t rfl ?_
    refine he_and1 ?_
    wtm_at "hx"
    refine he_call (fs_res57 V (some a)) (R.le (by decide)) ?_ (by wtm_at "mem") rfl (by wtm_at "plain")
    refine hls_cons ?_
    refine HN.he (hn_lst ?_)
    wtm_at "go"
    refine HN.he (hn_lst ?_)
    wtm_at "go"
    refine ⟨rfl, ?_⟩
    wtm_at "go"
    rfl
end
section
variable {prog : Program} {w : World} {g₀ : Heap} {mg : Str → Option Value} (V : View g₀ mg)

theorem call_by_name {c : Cx} {ns : Names} {σ : Vals} {D : Int × Int} {f : Str} {x : Expr} {args : List Expr} {p pos : Pos} {fa : Addr} {fd : FuncData} {o : Obj} {φ : List PV → Int × Int → Prop} {s : Shared} {Q : Value → Shared → Prop} {E : Value → Shared → Prop}
    (hm : c.mg f = some (.ref fa)) (ho : c.g₀.get? fa = some o) (hdat : o.data = .func fd) (S : ESt c ns σ D s.heap) (H : HLs c ns σ D (x :: args) φ)
    (hf : (f, NameKind.globalImplicit) ∈ ns) (hd : (f == ("__debug__" : Str)) = false) (hp : Plain (x :: args))
    (K : ∀ ts D₁ vs h₁ tk₁, φ ts D₁ → ESt c ns σ D₁ h₁ → Kp c.d s.heap h₁ → Reps c.X h₁ ts vs → wpAny (model c.prog c.w) c.A (call (.ref fa) vs) Q E { s with heap := h₁, toks := tk₁ }) :
    wpAny (model c.prog c.w) c.A (eval (.Call (.Name f p) (x :: args) [] pos) c.env) Q E s := by
  refine wpAny_Call_NameR (go_global hf hm S ?_ hd)
  have e1 := hp.1 c.env
  have h := H s pos (fun vs s₁ => (s₁.heap.get? fa = some o ∧ o.data = .func fd) ∧ wpAny (model c.prog c.w) c.A (call (.ref fa) vs) Q E s₁) E S fun ts D₁ vs h₁ tk₁ hφ S₁ k₁ r₁ =>
    ⟨⟨S₁.base _ _ ho, hdat⟩, K ts D₁ vs h₁ tk₁ hφ S₁ k₁ r₁⟩
  rw [e1] at h ⊢
  exact callWith_function (o := o) (fd := fd) (evalArgs_plain h)

theorem AtS.memv {ns : Names} {τ : STs} {y : Str} {k : NameKind} {v : SV} (h : AtS ns τ y k v) : v ∈ τ := by
  obtain ⟨i, _, e⟩ := h
  exact List.mem_of_getElem? e
theorem off_dict {X : Addr → Prop} {h : Heap} {a : Addr} {l : List Int} {v : Value} {D : Int × Int} (da : DrawsAt prog w h a D) (r : Rep X h (.list (il l)) v) : Rep (fun b => X b ∨ b = a) h (.list (il l)) v := by
  obtain ⟨b, vs, rfl, hx, pl, rr⟩ := r
  refine rep_list (fun q => ?_) pl (flat.reps flat_il rr)
  rcases q with q | q
  · exact hx q
  · subst q
    obtain ⟨_, _, ⟨o, es, ep, ho, _, hd, _⟩, _⟩ := da
    obtain ⟨n, e⟩ := pl
    rw [ho] at e; cases e
    cases hd

include V
set_option maxHeartbeats 2000000 in
theorem law_main (G : GOk g₀ mg) {params : Arguments} {body : List Stmt} {scope : Scope} (hdef : vw.theDef "law" = some (params, body, scope)) {A : Around} {L fa : Addr} {cd : Value} (R : Room A 9)
    {s : Shared} {sc : Addr} {vs : List Value} {script : List Int} {m : Str → Option Value} {Q : Flow → Shared → Prop} {E : Value → Shared → Prop}
    (hlen : script.length ≤ 63) (pl : g₀.PlainList sc vs.toArray) (hi : IntsAre vs script) (hL : L = g₀.objs.size) (F : Fr g₀ L s.heap m) (hm : m "script" = some (.ref sc))
    (K : ∀ h' tk, (∀ b o, g₀.get? b = some o → h'.get? b = some o) → Q (.ret (.bool true)) { s with heap := h', toks := tk }) :
    wpAny (model prog w) A (execs body (envOf "law" scope L fa cd)) Q E s := by
  have rest := fun (a : Addr) (env : Env) (X : Addr → Prop) (D : Int × Int) (dok : DOk D) => law_rest (prog := prog) (w := w) V a (A := A) (env := env) (X := X) R dok hdef script
  obtain ⟨da, dfd, dob, dm, dho, ddat, dgo⟩ := draws_call (prog := prog) (w := w) V
  have nL : g₀.get? L = none := by rw [hL]; exact Heap.get?_none_of_le (Nat.le_refl _)
  have r0 : Rep (fun _ => False) g₀ (.list (il script)) (.ref sc) := rep_list id pl (reps_ints hi)
  have e : vw.theDef "law" = some (_, _, _) := rfl
  have S0 : SSt { prog := prog, w := w, g₀ := g₀, mg := mg, d := none, A := A, env := envOf "law" scope L fa cd, X := Fo (envOf "law" scope L fa cd) } g₀ (fun _ => False) [] scope.names
      [.val (.list (il script)), .no, .no, .no, .no, .no, .no, .no, .no, .no, .no, .no, .no, .no, .no, .no, .no, .no, .no, .no, .no, .no, .no, .no] (0, 0) s.heap := by
    rw [e] at hdef
    cases hdef
    exact sst_init G F nL rfl (by decide) (by simp) (by wtm_at "ini") hm r0 (R.le (by decide))
  rw [e] at hdef
  clear e
  cases hdef
  have foL : ∀ {sc' : Scope} b, Fo (envOf "law" sc' L fa cd) b → b = L := fun b fo => fo.elim id fun ⟨_, q⟩ => nomatch q
  refine wpAny_execs_cons ?_
  refine wpAny_Assign_Name ?_ rfl
  refine call_by_name (φ := fun ts D => ts = [.list (il script)] ∧ D = (0, 0)) dm dho ddat (S0.full (Full.self _)) ?_ (by wtm_at "mem") rfl (by wtm_at "plain") fun ts D₁ vs' h₁ tk₁ hφ S₁ k₁ r₁ => ?_
  · wtm_at "go"
    exact ⟨rfl, rfl⟩
  obtain ⟨rfl, rfl⟩ := hφ
  refine dgo A _ { s with heap := h₁, toks := tk₁ } vs' script _ E (R.le (by decide)) G S₁.base S₁.live r₁ hlen fun a D h' tk dok ha dat kp => ?_
  have kk : ∀ b o, s.heap.get? b = some o → h'.get? b = some o := fun b o e => kp b o (k₁ b o (fun q => nomatch q) e)
  have S2 := S0.next (D' := (0, 0)) (Kp.all kk) (fun _ q => nomatch q)
  have hX : ¬ Fo (envOf "law" _ L fa cd) a := fun fo => by
    obtain ⟨o, e⟩ := S₁.live a fo
    rw [show h₁.get? a = none from ha] at e; cases e
  have hg : g₀.get? a = none := by
    cases e : g₀.get? a with
    | none => rfl
    | some o => have := S₁.base a o e; rw [show h₁.get? a = none from ha] at this; cases this
  have S3 := S2.enter rfl dat hX hg (fun x k t at' v _ r => by
    have := at'.memv
    simp at this
    subst this
    exact off_dict dat r)
  have liveL : ∃ o, h'.get? L = some o := S2.base.live L (.inl (.inl rfl))
  refine sst_store (s := { s with heap := h', toks := tk }) (k := .local) (t := .dd a) (τ' := [.val (.list (il script)), .val (.dd a), .no, .no, .no, .no, .no, .no, .no, .no, .no, .no, .no, .no, .no, .no, .no, .no, .no, .no, .no, .no, .no, .no])
    (by wtm_at "sete") (.inl rfl) S3 (show Rep _ _ (.dd a) (.ref a) from rfl) fun h₂ tk₂ S4 _ => ?_
  refine rest a _ _ D dok _ _ _ { s with heap := h₂, toks := tk₂ } Q E S4 (fun _ _ _ _ _ p => p.elim) fun t D' v h₃ tk₃ p k₃ dr rv => ?_
  subst p
  have rv : v = .bool true := rv
  subst rv
  refine K h₃ tk₃ fun b o e => k₃ b o (fun q => ?_) (S3.base.base b o e)
  rcases q with q | q
  · rw [q, hg] at e; cases e
  · rw [foL b q, nL] at e; cases e
end
end Mine
end
end
section
open PySem PySem.W PySem.Calls PyProof.Rows
set_option maxRecDepth 100000
namespace Mine
noncomputable def bNames : List Str := ["len", "max", "abs", "sum", "list", "range", "enumerate", "zip"]
theorem bare_all : ∀ x ∈ bNames, x ∉ startupNames ∧ x ∉ looseW vw [] ∧ x ∉ (recsOf vw).map (·.name) ∧ x ∉ (litsOf vw).map (·.1) ∧ x ∉ (clssOf vw (looseW vw [])).map (·.name) := by decide +kernel
theorem bare_names {mean : ExcName → Option Value} {mg mb : Str → Option Value} {h : Heap} (T : Top vw (looseW vw []) mean mg mb h) {x : Str} (hx : x ∈ bNames) : mg x = none :=
  let ⟨a, b, c, d, e⟩ := bare_all x hx
  T.free x a b c d e
theorem view_of {mean : ExcName → Option Value} {mg mb : Str → Option Value} {h : Heap} (T : Top vw (looseW vw []) mean mg mb h) : View h mg where
  defs := fun name a b sc hdef h1 h2 => by
    obtain ⟨pos, hmem⟩ := rec_mem hdef h1 h2
    obtain ⟨fa, o, pm, code, doc, e1, e2, e3, e4⟩ := T.fn _ hmem
    exact ⟨fa, o, pm, code, doc, e1, e2, e3, e4⟩
  len := bare_names T (by simp [bNames])
  max := bare_names T (by simp [bNames])
  abs := bare_names T (by simp [bNames])
  sum := bare_names T (by simp [bNames])
  list := bare_names T (by simp [bNames])
  range := bare_names T (by simp [bNames])
  enum := bare_names T (by simp [bNames])
  zip := bare_names T (by simp [bNames])
theorem gok_of {mean : ExcName → Option Value} {mg mb : Str → Option Value} {h : Heap} (T : Top vw (looseW vw []) mean mg mb h) : GOk h mg := ⟨T.g, ⟨mb, T.b, T.builtins⟩, T.nolimit⟩
theorem plain_of {P : Params} {h : Heap} {a : Addr} {vs : List Value} {l : List PyData} (il : h.IsList a vs.toArray) (W : Well P h (.ref a) (ofPy (.list l))) : h.PlainList a vs.toArray := by
  obtain ⟨o, ho, hc, n, hdat⟩ := il
  have W : Well P h (.ref a) (.list (ofPys l)) := W
  cases W with
  | list e _ =>
    rw [ho] at e
    cases e
    have hdat : Data.seq _ _ = Data.seq vs.toArray n := hdat
    injection hdat with h1 h2
    exact ⟨_, by rw [← h1]; exact ho⟩
theorem post_ok (args ds : List WData) : Challenge.rw_pq0215_01.row.claim.post args (.bool true) ds = true := by
  show (WShape.has [] (.bool true) .bool && WTm.holds [] (.eq .res (.lit (.bool true))) { args := args, res := some (.bool true), after := ds }) = true
  have h1 : WShape.has [] (.bool true) .bool = true := by decide +kernel
  have h2 : WTm.holds [] (.eq .res (.lit (.bool true))) { args := args, res := some (.bool true), after := ds } = true := by
    simp [WTm.holds, WTm.value, same]
  rw [h1, h2]; rfl
theorem room_caller (env : Env) : Room (callerA.deeper env) 9 :=
  ⟨rfl, by show callerA.depth + 1 + 9 < recursionLimit; decide +kernel, by show callerA.units + 3 + 8 * 9 + 80 < cLine; decide +kernel⟩
end Mine
set_option maxHeartbeats 8000000 in
theorem PySem.Challenge.cw_pq0215_01_holds : PySem.Challenge.rw_pq0215_01.Holds := by
  w_on; o_law
  refine holds_open (q := Mine.vw) (loose := []) (Xt := fun s => xlAt Mine.vw [] s && recOk (RowW.records PySem.Challenge.rw_pq0215_01.row.toRowW) s) (XP := XL Mine.vw []) (Yf := Hook.obs Hook.none) (Ya := Hook.val Hook.none) (YP := Hook.says Hook.none) (N := 2572) ?hl
    (Hook.of Hook.none) (Hook.keeps Hook.none) (fun s e => xl_of s (Bool.and_eq_true_iff.mp e).1) XL.keeps (by rfl) (by rfl) (by rfl) (fun s e => recFacts_of (Bool.and_eq_true_iff.mp e).2) (by rfl) (by assumption) (by decide +kernel) ⟨rfl, rfl, rfl, rfl, rfl, by decide +kernel⟩ ?hw ?hc
  case hl => exact Mine.left_ok
  case hw => w_witness2
  intro w s₀ s₁ mg mb G Y fa o pm cd doc dV kV ho hd hcd hD hmg hg args vals as hpre hlay hrd hwl hlo
  k_behind G ho hd hcd hD hmg hpre hlay hrd hwl hlo cd
  rename Top _ _ _ _ _ _ => T
  rename Heap.IsList _ _ _ => hIL
  rename Well _ _ _ _ => w1
  rename IntsAre _ _ => hI
  rename Fr _ _ _ _ => F
  refine Mine.law_main (Mine.view_of T) (Mine.gok_of T) rfl (Mine.room_caller _) (by omega) (Mine.plain_of hIL w1) hI rfl F rfl fun h' tk kp => ?_
  exact ⟨.inl ⟨.bool true, .bool true, [], rfl, fun _ => rfl, .bool true, Mine.post_ok _ _, fun _ => ⟨List.nodup_nil, fun a ha => nomatch ha⟩⟩, kp, rfl, hg⟩
end
