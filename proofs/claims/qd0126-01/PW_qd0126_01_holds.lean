import PyProof.Rows.All
import Wide.All
import OpenK.AllK
import Wide.FinOn
import PySem.Challenge.RW_qd0126_01
open PySem PySem.W PyProof.Rows
set_option Elab.async false
set_option maxRecDepth 100000
set_option maxHeartbeats 0
set_option compiler.extract_closed false
set_option linter.unusedVariables false
set_option linter.unusedSimpArgs false
namespace Mine
section
-- the written part of the state alone (wr.heap_1); the head itself is proved in the last theorem
local macro_rules | `(tactic| o_head $H) => `(tactic| ((have _hk := $H); assumption))
theorem wr (h : PySem.Challenge.rw_qd0126_01.row.Holds) : PySem.Challenge.rw_qd0126_01.row.Holds := by
  km_head
end
end Mine
open PySem PySem.W PySem.W.X PySem.Calls PySem.Spec PyProof.Rows

namespace Mine
/-! bare arithmetic, each proved once over variables alone -/
theorem omq1 (x1 : Nat) (x2 : Nat) (h1 : x1 + (1 : Nat) ≤ x2) : x1 ≤ x2 := by omega
theorem omq2 (x1 : Nat) (x2 : Nat) (h1 : x1 + x2 < (990 : Nat)) : x1 < (1000 : Nat) := by omega
theorem omq3 (x1 : Nat) (x2 : Nat) (x3 : Nat) (h1 : x1 + x2 < (9800 : Nat)) (h2 : x3 = (9900 : Nat)) : x1 < x3 := by omega
theorem omq4 (x1 : Nat) (x2 : Nat) (h1 : x1 + (x2 + (1 : Nat)) < (990 : Nat)) : x1 + (1 : Nat) + x2 < (990 : Nat) := by omega
theorem omq5 (x1 : Nat) (x2 : Nat) (h1 : x1 + (x2 + (3 : Nat)) < (9800 : Nat)) : x1 + (3 : Nat) + x2 < (9800 : Nat) := by omega
theorem omq6 (x1 : Nat) (x2 : Nat) (x3 : Nat) (h1 : x1 + (1 : Nat) ≤ x2) (h2 : x3 + x2 < (990 : Nat)) : x3 + (1 : Nat) + x1 < (990 : Nat) := by omega
theorem omq7 (x1 : Nat) (x2 : Nat) (x3 : Nat) (h1 : x1 + (3 : Nat) ≤ x2) (h2 : x3 + x2 < (9800 : Nat)) : x3 + (3 : Nat) + x1 < (9800 : Nat) := by omega
theorem omq8 (x1 : Nat) (x2 : Nat) (h1 : x1 + (x2 + (1 : Nat)) < (9800 : Nat)) : x1 + (1 : Nat) + x2 < (9800 : Nat) := by omega
theorem omq9 (x1 : Nat) (x2 : Nat) (x3 : Nat) (h1 : x1 ≤ x2) (h2 : x3 + x2 < (990 : Nat)) : x3 + x1 < (990 : Nat) := by omega
theorem omq10 (x1 : Nat) (x2 : Nat) (x3 : Nat) (h1 : x1 ≤ x2) (h2 : x3 + x2 < (9800 : Nat)) : x3 + x1 < (9800 : Nat) := by omega
theorem omq11 (x1 : Nat) (x2 : Nat) (x3 : Nat) (x4 : Nat) (h1 : x1 + x2 ≤ x3) (h2 : x3 + x4 < (990 : Nat)) : x1 + x2 ≤ (990 : Nat) := by omega
theorem omq12 (x1 : Nat) (x2 : Nat) (x3 : Nat) (h1 : x1 ≤ x2) (h2 : x2 + x3 < (9800 : Nat)) : x1 ≤ (9800 : Nat) := by omega
theorem omq13 (x1 : Nat) (x2 : Nat) (h1 : x1 < x2) : x2 + (1 : Nat) - (x1 + (1 : Nat)) < x2 + (1 : Nat) - x1 := by omega
theorem omq14 (x1 : Nat) (x2 : Nat) (h1 : x1 ≤ x2) (h2 : ¬x1 < x2) : x1 = x2 := by omega
theorem omq15 (x1 : Nat) (h1 : x1 < (2 : Nat) ^ (62 : Nat)) : -(2 : Int) ^ (62 : Nat) ≤ (↑x1 : Int) := by omega
theorem omq16 (x1 : Nat) (h1 : x1 < (2 : Nat) ^ (62 : Nat)) : (↑x1 : Int) < (2 : Int) ^ (62 : Nat) := by omega
theorem omq17 (x1 : Nat)  : (↑x1 : Int) - (0 : Int) = (↑x1 : Int) := by omega
theorem omq18 (x1 : Nat) (h1 : x1 < (2 : Nat) ^ (62 : Nat)) (h2 : ¬(0 : Int) < (↑x1 : Int)) : (0 : Int) = (↑x1 : Int) := by omega
theorem omq19 (x1 : Nat)  : (0 : Int) + (↑x1 : Int) * (1 : Int) = (↑x1 : Int) := by omega
theorem omq20 (x1 : Int) (x2 : Int) (h1 : x1.natAbs < (2 : Nat) ^ (62 : Nat) ∧ x2.natAbs < (2 : Nat) ^ (62 : Nat)) : -(2 : Int) ^ (62 : Nat) ≤ x1 := by omega
theorem omq21 (x1 : Int) (x2 : Int) (h1 : x1.natAbs < (2 : Nat) ^ (62 : Nat) ∧ x2.natAbs < (2 : Nat) ^ (62 : Nat)) : x1 < (2 : Int) ^ (62 : Nat) := by omega
theorem omq22 (x1 : Int) (x2 : Int) (h1 : x1.natAbs < (2 : Nat) ^ (62 : Nat) ∧ x2.natAbs < (2 : Nat) ^ (62 : Nat)) : -(2 : Int) ^ (62 : Nat) ≤ x2 := by omega
theorem omq23 (x1 : Int) (x2 : Int) (h1 : x1.natAbs < (2 : Nat) ^ (62 : Nat) ∧ x2.natAbs < (2 : Nat) ^ (62 : Nat)) : x2 < (2 : Int) ^ (62 : Nat) := by omega
theorem omq24 (x1 : Int) (x2 : Nat)  : x1 + (↑x2 : Int) * (1 : Int) = x1 + (↑x2 : Int) := by omega
theorem omq25 (x1 : Nat) (x2 : Nat) (h1 : x1 ≤ (100 : Nat)) (h2 : x2 ≤ x1 + (1 : Nat)) : x2 ≤ (16777216 : Nat) + (1 : Nat) := by omega
theorem omq26 (x1 : Nat) (x2 : Nat) (h1 : ¬x1 ≤ x2) : x2 < x1 := by omega
theorem omq27 (x1 : Nat) (x2 : Nat) (x3 : Nat) (h1 : x1 ≤ (100 : Nat)) (h2 : x2 + (x3 + (1 : Nat)) ≤ x1) : x2 ≤ (16777216 : Nat) := by omega
theorem omq28 (x1 : Nat) (x2 : Nat) (x3 : Nat) (h1 : x1 + (x2 + (1 : Nat)) ≤ x3) : x1 + (1 : Nat) + x2 ≤ x3 := by omega
theorem omq29 (x1 : Nat) (x2 : Nat) (h1 : x1 ≤ x2) (h2 : ¬x2 = x1) : x1 + (1 : Nat) ≤ x2 := by omega
theorem omq30 (x1 : Nat) (x2 : Nat) (h1 : x1 < x2) : x1 < x2 + (1 : Nat) := by omega
theorem omq31 (x1 : Nat)  : (0 : Nat) + x1 ≤ x1 := by omega
theorem omq32 (x1 : Nat) (x2 : Nat) (h1 : x1 ≤ x2) (h2 : x2 < x1) : False := by omega
theorem omq33 (x1 : Nat) (h1 : x1 < (30 : Nat)) (h2 : x1 ≤ (1 : Nat)) : x1 = (0 : Nat) ∨ x1 = (1 : Nat) := by omega
theorem omq34 (x1 : Nat) (x2 : Nat) (h1 : x1 < (2 : Nat) ^ (62 : Nat)) (h2 : x2 = x1) : (↑x1 : Int) < (2 : Int) ^ (63 : Nat) := by omega
theorem omq35 (x1 : Int) (h1 : (0 : Int) ≤ x1) (h2 : x1 < (2 : Int) ^ (63 : Nat)) : -(2 : Int) ^ (63 : Nat) ≤ x1 := by omega
theorem omq36 (x1 : Nat) (x2 : Nat) (x3 : Nat) (x4 : Nat) (h1 : x1 < x2) (h2 : x2 ≤ (100 : Nat)) (h3 : x3 + x4 ≤ x2) : x3 ≤ (16777216 : Nat) := by omega
theorem omq37 (x1 : Nat) (x2 : Nat) (x3 : Nat) (h1 : x1 + x2 ≤ x3) : x1 ≤ x3 := by omega
theorem omq38 (x1 : Nat) (x2 : Nat) (x3 : Nat) (h1 : x1 + x2 ≤ x3) : x1 + x2 ≤ x3 + (1 : Nat) := by omega
theorem omq39 (x1 : Nat) (x2 : Nat) (x3 : Nat) (h1 : x1 + x2 ≤ x3) : x1 + x2 ≤ x3 := by omega
theorem omq40 (x1 : Nat) (h1 : (1 : Nat) ≤ x1) (h2 : x1 ≤ (4 : Nat)) : (1 : Int) ≤ (↑x1 : Int) := by omega
theorem omq41 (x1 : Nat) (h1 : (1 : Nat) ≤ x1) (h2 : x1 ≤ (4 : Nat)) : (↑x1 : Int) ≤ (4 : Int) := by omega
theorem omq42 (x1 : Nat) (x2 : Nat) (h1 : x1 + x2 = (20 : Nat)) : (8 : Nat) ≤ x2 + (10 : Nat) := by omega
theorem omq43 (x1 : Nat) (x2 : Nat) (h1 : x1 + x2 = (20 : Nat)) : (40 : Nat) ≤ (3 : Nat) * x2 + (50 : Nat) := by omega
theorem omq44 (x1 : Nat) (x2 : Nat) (h1 : x1 + x2 = (20 : Nat)) : (8 : Nat) + (1 : Nat) ≤ x2 + (10 : Nat) := by omega
theorem omq45 (x1 : Nat) (x2 : Nat) (h1 : x1 + x2 = (20 : Nat)) : (40 : Nat) + (3 : Nat) ≤ (3 : Nat) * x2 + (50 : Nat) := by omega
theorem omq46 (x1 : Nat) (x2 : Nat) (h1 : x1 + (40 : Nat) < (9800 : Nat)) (h2 : x2 = (9900 : Nat)) : x1 + (3 : Nat) + (1 : Nat) < x2 := by omega
theorem omq47 (x1 : Nat) (x2 : Nat)  : x1 + x2 + (1 : Nat) = (1 : Nat) + (x1 + x2) := by omega
theorem omq48 (x1 : Nat) (x2 : Nat) (x3 : Nat) (x4 : Nat) (h1 : x1 = x2 + x3) (h2 : x4 = (1 : Nat) + (x2 + x3)) (h3 : x2 ≤ (3 : Nat) ∧ x3 ≤ (2 : Nat)) : (1 : Nat) + (x2 + x3) < (2 : Nat) ^ (62 : Nat) := by omega
theorem omq49 (x1 : Nat) (x2 : Nat) (x3 : Nat) (x4 : Nat) (h1 : x1 = x2 + x3) (h2 : x4 = (1 : Nat) + (x2 + x3)) (h3 : (0 : Nat) < x2 + x3) : ¬(↑((1 : Nat) + (x2 + x3)) : Int) < (2 : Int) := by omega
theorem omq50 (x1 : Nat) (x2 : Nat) (x3 : Nat) (h1 : x1 + x2 = (20 : Nat)) (h2 : (20 : Nat) < x1 + x3) : (20 : Int) < (↑x1 : Int) + (↑x3 : Int) := by omega
theorem omq51 (x1 : Nat) (x2 : Nat) (x3 : Nat) (h1 : x1 + x2 = (20 : Nat)) (h2 : ¬(20 : Nat) < x1 + x3) : (↑x1 : Int) + (↑x3 : Int) ≤ (20 : Int) := by omega
theorem omq52 (x1 : Nat) (x2 : Nat) (x3 : Nat) (h1 : x1 + x2 = (20 : Nat)) (h2 : ¬(20 : Nat) < x1 + x3) : x1 + x3 ≤ (20 : Nat) := by omega
theorem omq53 (x1 : Nat) (x2 : Nat) (h1 : x1 + x2 = (20 : Nat)) (h2 : x1 = (20 : Nat)) : (20 : Int) < (↑x1 : Int) + (1 : Int) := by omega
theorem omq54 (x1 : Nat) (x2 : Nat) (x3 : Nat) (h1 : x1 + x2 = (20 : Nat)) (h2 : (1 : Nat) ≤ x3) (h3 : x1 = (20 : Nat)) : (20 : Nat) < x1 + x3 := by omega
theorem omq55 (x1 : Nat) (x2 : Nat) (h1 : x1 + x2 = (20 : Nat)) (h2 : ¬x1 = (20 : Nat)) : (↑x1 : Int) + (1 : Int) ≤ (20 : Int) := by omega
theorem omq56 (x1 : Nat) (x2 : Nat) (x3 : Nat) (x4 : Nat) (h1 : x1 = x2 + x3) (h2 : x4 = (1 : Nat) + (x2 + x3)) (h3 : (0 : Nat) < x2 + x3) : (1 : Nat) ≤ x4 := by omega
theorem omq57 (x1 : Nat) (x2 : Nat) (x3 : Nat) (x4 : Nat) (h1 : x1 = x2 + x3) (h2 : x4 = (1 : Nat) + (x2 + x3)) (h3 : x2 ≤ (3 : Nat) ∧ x3 ≤ (2 : Nat)) : (1 : Nat) + (x2 + x3) ≤ (16777216 : Nat) := by omega
theorem omq58 (x1 : Nat) (x2 : Nat) (x3 : Nat) (x4 : Nat) (h1 : x1 + x2 = (20 : Nat)) (h2 : ¬x1 = (20 : Nat)) (h3 : (20 : Nat) < x1 + x3) (h4 : x3 = (1 : Nat)) : (0 : Nat) < x4 := by omega
theorem omq59 (x1 : Nat) (x2 : Nat) (x3 : Nat) (x4 : Nat) (h1 : x1 + x2 = (20 : Nat)) (h2 : (20 : Nat) < x1 + x3) (h3 : x3 = x4 + (1 : Nat)) : (20 : Nat) < x1 + (1 : Nat) + x4 := by omega
theorem omq60 (x1 : Nat) (x2 : Nat) (x3 : Nat) (x4 : Nat) (h1 : x1 + x2 = (20 : Nat)) (h2 : (21 : Nat) ≤ x3 ∧ (21 : Nat) ≤ x4) : (20 : Nat) < x1 + (1 : Nat) + x4 := by omega
theorem omq61 (x1 : Nat) (x2 : Nat) (x3 : Nat) (x4 : Nat) (h1 : x1 = x2 + x3) (h2 : x4 = (1 : Nat) + (x2 + x3)) (h3 : x2 ≤ (3 : Nat) ∧ x3 ≤ (2 : Nat)) (h4 : (0 : Nat) < x2) : x1 ≤ (16777216 : Nat) := by omega
theorem omq62 (x1 : Nat) (x2 : Nat) (x3 : Nat) (x4 : Nat) (h1 : x1 + x2 = (20 : Nat)) (h2 : ¬x1 = (20 : Nat)) (h3 : x3 ≠ x4) : x2 - (1 : Nat) < x2 := by omega
theorem omq63 (x1 : Nat) (x2 : Nat) (x3 : Nat) (x4 : Nat) (h1 : x1 + x2 = (20 : Nat)) (h2 : ¬x1 = (20 : Nat)) (h3 : x3 ≠ x4) : x1 + (1 : Nat) + (x2 - (1 : Nat)) = (20 : Nat) := by omega
theorem omq64 (x1 : Nat) (x2 : Nat) (x3 : Nat) (x4 : Nat) (h1 : x1 + x2 = (20 : Nat)) (h2 : ¬x1 = (20 : Nat)) (h3 : x3 ≠ x4) : x2 - (1 : Nat) + (10 : Nat) + (1 : Nat) ≤ x2 + (10 : Nat) := by omega
theorem omq65 (x1 : Nat) (x2 : Nat) (x3 : Nat) (x4 : Nat) (h1 : x1 + x2 = (20 : Nat)) (h2 : ¬x1 = (20 : Nat)) (h3 : x3 ≠ x4) : (3 : Nat) * (x2 - (1 : Nat)) + (50 : Nat) + (3 : Nat) ≤ (3 : Nat) * x2 + (50 : Nat) := by omega
theorem omq66 (x1 : Nat) (x2 : Nat) (x3 : Nat) (h1 : x1 + x2 = (20 : Nat)) (h2 : (20 : Nat) < x1 + (1 : Nat) + x3) (h3 : x1 + (1 : Nat) + x3 ≤ (20 : Nat)) : False := by omega
theorem omq67 (x1 : Nat) (x2 : Nat) (x3 : Nat) (x4 : Nat) (h1 : x1 = x2 + x3) (h2 : x4 = (1 : Nat) + (x2 + x3)) (h3 : x2 ≤ (3 : Nat) ∧ x3 ≤ (2 : Nat)) : x1 ≤ (16777216 : Nat) := by omega
theorem omq68 (x1 : Nat) (x2 : Nat) (x3 : Nat) (x4 : Nat) (x5 : Nat) (h1 : x1 = x2 + x3) (h2 : x4 = (1 : Nat) + (x2 + x3)) (h3 : x2 ≤ (3 : Nat) ∧ x3 ≤ (2 : Nat)) (h4 : x5 < x2) : (0 : Nat) < x2 := by omega
theorem omq69 (x1 : Nat) (x2 : Nat) (x3 : Nat) (h1 : x1 + x2 = (20 : Nat)) (h2 : ¬(20 : Nat) < x1 + x3) : x3 ≤ (20 : Nat) := by omega
theorem omq70 (x1 : Nat) (x2 : Nat) (h1 : x1 = x2 + (1 : Nat)) : x1 = x2 + (1 : Nat) := by omega
theorem omq71 (x1 : Nat) (x2 : Nat) (x3 : Nat) (x4 : Nat) (h1 : x1 + x2 = (20 : Nat)) (h2 : ¬(20 : Nat) < x1 + x3) (h3 : (21 : Nat) ≤ x3 ∧ (21 : Nat) ≤ x4) : x3 = x4 + (1 : Nat) := by omega
theorem omq72 (x1 : Nat) (x2 : Nat) (x3 : Nat) (x4 : Nat) (h1 : x1 + x2 = (20 : Nat)) (h2 : (1 : Nat) ≤ x3) (h3 : ¬(20 : Nat) < x1 + x3) (h4 : x3 = x4 + (1 : Nat)) : x2 - (1 : Nat) < x2 := by omega
theorem omq73 (x1 : Nat) (x2 : Nat) (x3 : Nat) (x4 : Nat) (h1 : x1 + x2 = (20 : Nat)) (h2 : (1 : Nat) ≤ x3) (h3 : ¬(20 : Nat) < x1 + x3) (h4 : x3 = x4 + (1 : Nat)) : x1 + (1 : Nat) + (x2 - (1 : Nat)) = (20 : Nat) := by omega
theorem omq74 (x1 : Nat) (x2 : Nat) (x3 : Nat) (h1 : x1 < x2) (h2 : x3 = x1 + (1 : Nat)) : x1 + (1 : Nat) ≤ x2 := by omega
theorem omq75 (x1 : Nat) (x2 : Nat) (h1 : x1 ≤ x2) : x1 ≤ x2 := by omega
theorem omq76 (x1 : Nat) (x2 : Nat) (x3 : Nat) (x4 : Nat) (h1 : x1 + x2 = (20 : Nat)) (h2 : (1 : Nat) ≤ x3) (h3 : ¬(20 : Nat) < x1 + x3) (h4 : x3 = x4 + (1 : Nat)) : x2 - (1 : Nat) + (10 : Nat) + (1 : Nat) ≤ x2 + (10 : Nat) := by omega
theorem omq77 (x1 : Nat) (x2 : Nat) (x3 : Nat) (x4 : Nat) (h1 : x1 + x2 = (20 : Nat)) (h2 : (1 : Nat) ≤ x3) (h3 : ¬(20 : Nat) < x1 + x3) (h4 : x3 = x4 + (1 : Nat)) : (3 : Nat) * (x2 - (1 : Nat)) + (50 : Nat) + (3 : Nat) ≤ (3 : Nat) * x2 + (50 : Nat) := by omega
theorem omq78 (x1 : Nat) (x2 : Nat) (h1 : x1 = x2 + (1 : Nat)) : min (x2 + (1 : Nat)) x1 = x2 + (1 : Nat) := by omega
theorem omq79 (x1 : Nat) (x2 : Nat) (x3 : Nat) (h1 : ¬x1 ≤ x2) (h2 : x3 = x2 + (1 : Nat)) : min x1 x3 = x2 + (1 : Nat) := by omega
theorem omq80 (x1 : Nat) (x2 : Nat) (x3 : Nat) (x4 : Nat) (h1 : x1 + x2 = (20 : Nat)) (h2 : ¬(20 : Nat) < x1 + x3) (h3 : x3 = x4 + (1 : Nat)) (h4 : (20 : Nat) < x1 + (1 : Nat) + x4) : False := by omega
theorem omq81 (x1 : Nat)  : (0 : Nat) < x1 + (1 : Nat) := by omega
theorem omq82 (x1 : Nat) (x2 : Nat) (x3 : Nat) (x4 : Nat) (x5 : Nat) (h1 : x1 = x2 + x3) (h2 : x4 = (1 : Nat) + (x2 + x3)) (h3 : x2 ≤ (3 : Nat) ∧ x3 ≤ (2 : Nat)) (h4 : ¬x5 < x2) (h5 : (0 : Nat) < x2) : (0 : Nat) < x5 := by omega
theorem omq83 (x1 : Nat) (x2 : Nat) (x3 : Nat) (x4 : Nat) (x5 : Nat) (h1 : x1 = x2 + x3) (h2 : x4 = (1 : Nat) + (x2 + x3)) (h3 : (0 : Nat) < x2 + x3) (h4 : x5 = x1) : (0 : Nat) < x1 := by omega
theorem omq84 (x1 : Nat) (x2 : Nat) (x3 : Nat) (x4 : Nat) (x5 : Nat) (h1 : x1 = x2 + x3) (h2 : x4 = (1 : Nat) + (x2 + x3)) (h3 : x2 ≤ (3 : Nat) ∧ x3 ≤ (2 : Nat)) (h4 : x5 = x1) (h5 : ¬(0 : Nat) < x2) : x2 = (0 : Nat) := by omega
theorem omq85 (x1 : Nat) (x2 : Nat) (x3 : Nat) (h1 : x1 ≤ x2) (h2 : ¬x1 ≤ x3) (h3 : x3 + (1 : Nat) = x2) : x1 = x3 + (1 : Nat) := by omega
theorem omq86 (x1 : Nat) (x2 : Nat) (x3 : Nat) (h1 : x1 = x2 + x3) : x2 + x3 ≤ x1 := by omega
theorem omq87 (x1 : Nat) (x2 : Nat) (x3 : Nat) (x4 : Nat) (x5 : Nat) (h1 : x1 = x2 + x3) (h2 : x4 = (1 : Nat) + (x2 + x3)) (h3 : x2 ≤ (3 : Nat) ∧ x3 ≤ (2 : Nat)) (h4 : x5 = x1) : x1 ≤ (16777216 : Nat) := by omega
theorem omq88 (x1 : Nat) (x2 : Nat) (x3 : Nat) (x4 : Nat) (h1 : x1 = x2 + x3) (h2 : x4 = x2 + x3) : x1 ≤ x4 := by omega
theorem omq89 (x1 : Nat) (x2 : Nat) (x3 : Nat) (x4 : Nat) (x5 : Nat) (x6 : Nat) (h1 : x1 = x2 + x3) (h2 : x4 = (1 : Nat) + (x2 + x3)) (h3 : x2 ≤ (3 : Nat) ∧ x3 ≤ (2 : Nat)) (h4 : x5 = x1) (h5 : x6 = x5) : x1 ≤ (16777216 : Nat) := by omega
theorem omq90 (x1 : Nat) (x2 : Nat) (h1 : (0 : Nat) < x1 + x2) : (0 : Nat) < x1 + x2 := by omega
theorem omq91 (x1 : Nat) (x2 : Nat) (x3 : Nat) (x4 : Nat) (x5 : Nat) (x6 : Nat) (x7 : Nat) (h1 : x1 = x2 + x3) (h2 : x4 = (1 : Nat) + (x2 + x3)) (h3 : x2 ≤ (3 : Nat) ∧ x3 ≤ (2 : Nat)) (h4 : x5 = x1) (h5 : x6 = x5) (h6 : x7 = x5) (h7 : (0 : Nat) < x2) : x2 ≠ (0 : Nat) := by omega
theorem omq92 (x1 : Nat) (x2 : Nat) (x3 : Int) (h1 : x1 = x2 + (1 : Nat)) (h2 : (↑x2 : Int) = x3) : (1 : Int) + x3 = (↑x1 : Int) := by omega
theorem omq93 (x1 : Nat) (x2 : Nat) (x3 : Nat) (x4 : Nat) (x5 : Int) (h1 : x1 + x2 = (20 : Nat)) (h2 : (1 : Nat) ≤ x3) (h3 : ¬(20 : Nat) < x1 + x3) (h4 : x3 = x4 + (1 : Nat)) (h5 : (↑x4 : Int) ≤ x5) (h6 : (↑(0 : Nat) : Int) = x5) : (1 : Int) + x5 = (↑x3 : Int) := by omega
theorem omq94 (x1 : Nat) (x2 : Nat) (x3 : Nat) (x4 : Nat) (x5 : Nat) (x6 : Nat) (x7 : Nat) (h1 : x1 = x2 + x3) (h2 : x4 = (1 : Nat) + (x2 + x3)) (h3 : x2 ≤ (3 : Nat) ∧ x3 ≤ (2 : Nat)) (h4 : x5 = x1) (h5 : x6 = x5) (h6 : x7 = x5) (h7 : ¬(0 : Nat) < x2) : x2 = (0 : Nat) := by omega
theorem omq95 (x1 : Nat) (x2 : Int) (h1 : x1 = (1 : Nat)) (h2 : (↑(0 : Nat) : Int) = x2) : (1 : Int) + x2 = (↑x1 : Int) := by omega
theorem omq96 (x1 : Nat) (x2 : Nat) (x3 : Nat) (x4 : Int) (h1 : x1 + x2 = (20 : Nat)) (h2 : ¬(20 : Nat) < x1 + x3) (h3 : (1 : Int) + x4 = (↑x3 : Int)) : x1 + x3 ≤ (20 : Nat) := by omega
theorem omq97 (x1 : Nat) (x2 : Nat) (x3 : Nat) (h1 : ¬x1 ≤ x2) (h2 : x3 = x2 + (1 : Nat)) : x2 ≤ x1 := by omega
theorem omq98 (x1 : Nat) (h1 : (0 : Nat) + x1 ≤ (20 : Nat)) : x1 ≤ (20 : Nat) := by omega
theorem omq99 (x1 : Nat) (h1 : (20 : Nat) < (0 : Nat) + x1) : (20 : Nat) < x1 := by omega
theorem omq100 (x1 : Nat) (x2 : Nat) (x3 : Nat)  : x1 + x2 + x3 = x1 + (1 : Nat) * x3 + x2 := by omega
theorem omq101 (x1 : Nat) (h1 : (1 : Nat) ≤ x1 ∧ x1 ≤ (4 : Nat)) : (1 : Int) ≤ (↑x1 : Int) ∧ (↑x1 : Int) ≤ (4 : Int) := by omega
theorem omq102 (x1 : Nat) (x2 : Nat) (h1 : x1 + x2 = (21 : Nat)) : (8 : Nat) ≤ x2 + (12 : Nat) := by omega
theorem omq103 (x1 : Nat) (x2 : Nat) (h1 : x1 + x2 = (21 : Nat)) : (40 : Nat) ≤ (3 : Nat) * x2 + (60 : Nat) := by omega
theorem omq104 (x1 : Nat) (x2 : Nat) (h1 : x1 + x2 = (21 : Nat)) : (8 : Nat) + (1 : Nat) ≤ x2 + (12 : Nat) := by omega
theorem omq105 (x1 : Nat) (x2 : Nat) (h1 : x1 + x2 = (21 : Nat)) : (40 : Nat) + (3 : Nat) ≤ (3 : Nat) * x2 + (60 : Nat) := by omega
theorem omq106 (x1 : Nat) (x2 : Nat) (h1 : x1 + x2 = (21 : Nat)) (h2 : (20 : Nat) < x1) : (20 : Int) < (↑x1 : Int) := by omega
theorem omq107 (x1 : Nat) (x2 : Nat) (h1 : x1 + x2 = (21 : Nat)) (h2 : ¬(20 : Nat) < x1) : (↑x1 : Int) ≤ (20 : Int) := by omega
theorem omq108 (x1 : Nat) (x2 : Nat) (x3 : Nat) (x4 : Nat) (h1 : x1 ≤ (1 : Nat)) : (0 : Nat) < x2 ∧ (20 : Nat) < x3 + x4 → (0 : Nat) ≤ x1 := by omega
theorem omq109 (x1 : Nat) (x2 : Nat) (h1 : ¬x1 < x2) : x2 ≤ x1 := by omega
theorem omq110 (x1 : Nat) (x2 : Nat) (x3 : Nat) (x4 : Nat) (x5 : Nat) (h1 : x1 = x2 + (x3 + x4)) (h2 : ¬x5 < x2) (h3 : x5 < x2 + x3) : x5 - x2 < x3 := by omega
theorem omq111 (x1 : Nat) (x2 : Nat) (x3 : Nat) (x4 : Nat) (x5 : Nat) (h1 : x1 ≤ (3 : Nat)) (h2 : x2 = x3 + (x1 + x4)) (h3 : ¬x5 < x3) (h4 : x5 < x3 + x1) : (0 : Nat) < x1 := by omega
theorem omq112 (x1 : Nat) (x2 : Nat) (x3 : Nat) (h1 : x1 ≤ x2) (h2 : x3 < x2) : min x1 x3 ≤ x2 := by omega
theorem omq113 (x1 : Nat) (x2 : Nat) (h1 : x1 + x2 = (21 : Nat)) (h2 : ¬(20 : Nat) < x1) : x2 - (1 : Nat) < x2 := by omega
theorem omq114 (x1 : Nat) (x2 : Nat) (h1 : x1 + x2 = (21 : Nat)) (h2 : ¬(20 : Nat) < x1) : x1 + (1 : Nat) + (x2 - (1 : Nat)) = (21 : Nat) := by omega
theorem omq115 (x1 : Nat) (x2 : Nat) (h1 : x1 + x2 = (21 : Nat)) (h2 : ¬(20 : Nat) < x1) : x2 - (1 : Nat) + (12 : Nat) + (1 : Nat) ≤ x2 + (12 : Nat) := by omega
theorem omq116 (x1 : Nat) (x2 : Nat) (h1 : x1 + x2 = (21 : Nat)) (h2 : ¬(20 : Nat) < x1) : (3 : Nat) * (x2 - (1 : Nat)) + (60 : Nat) + (3 : Nat) ≤ (3 : Nat) * x2 + (60 : Nat) := by omega
theorem omq117 (x1 : Nat) (x2 : Nat) (x3 : Nat) (h1 : x1 + x2 = (21 : Nat)) (h2 : ¬(20 : Nat) < x1) (h3 : x1 + (1 : Nat) ≤ (20 : Nat)) (h4 : x3 = (1 : Nat)) : x1 + x3 ≤ (20 : Nat) := by omega
theorem omq118 (x1 : Nat) (x2 : Nat) (x3 : Nat) (x4 : Nat) (h1 : x1 + x2 = (21 : Nat)) (h2 : x1 + (1 : Nat) + x3 ≤ (20 : Nat)) (h3 : x4 = x3 + (1 : Nat)) : x1 + x4 ≤ (20 : Nat) := by omega
theorem omq119 (x1 : Nat) (x2 : Nat) (x3 : Nat) (x4 : Nat) (h1 : x1 + x2 = (21 : Nat)) (h2 : ¬(20 : Nat) < x1) (h3 : x1 + (1 : Nat) ≤ (20 : Nat)) (h4 : x1 + (1 : Nat) + x3 ≤ (20 : Nat)) (h5 : (21 : Nat) ≤ x4 ∧ (21 : Nat) ≤ x3) : x1 + x4 ≤ (20 : Nat) := by omega
theorem omq120 (x1 : Nat) (x2 : Nat) (x3 : Nat) (h1 : x1 + x2 = (21 : Nat)) (h2 : ¬(20 : Nat) < x1) (h3 : x1 + (1 : Nat) ≤ (20 : Nat)) (h4 : x1 + x3 ≤ (20 : Nat)) : x3 ≤ (20 : Nat) := by omega
theorem omq121 (x1 : Nat) (h1 : x1 = (0 : Nat)) : ¬(0 : Nat) < x1 := by omega
theorem omq122 (x1 : Nat) (h1 : x1 = (1 : Nat)) : (0 : Nat) = x1 - (1 : Nat) := by omega
theorem omq123 (x1 : Nat) (x2 : Nat) (h1 : (1 : Nat) ≤ x1) (h2 : x1 = x2 + (1 : Nat)) : x2 = x1 - (1 : Nat) := by omega
theorem omq124 (x1 : Nat) (x2 : Nat) (x3 : Nat) (x4 : Nat) (h1 : x1 + x2 = (21 : Nat)) (h2 : ¬(20 : Nat) < x1) (h3 : x1 + (1 : Nat) ≤ (20 : Nat)) (h4 : x1 + x3 ≤ (20 : Nat)) (h5 : (21 : Nat) ≤ x3 ∧ (21 : Nat) ≤ x4) : x4 = x3 - (1 : Nat) := by omega
theorem omq125 (x1 : Nat) (x2 : Nat) (x3 : Nat) (h1 : x1 + x2 = (21 : Nat)) (h2 : ¬(20 : Nat) < x1) (h3 : (1 : Nat) ≤ x3) (h4 : (20 : Nat) < x1 + (1 : Nat)) : (20 : Nat) < x1 + x3 := by omega
theorem omq126 (x1 : Nat) (x2 : Nat) (x3 : Nat) (x4 : Nat) (h1 : x1 + x2 = (21 : Nat)) (h2 : (20 : Nat) < x1 + (1 : Nat) + x3) (h3 : x4 = x3 + (1 : Nat)) : (20 : Nat) < x1 + x4 := by omega
theorem omq127 (x1 : Nat) (x2 : Nat) (x3 : Nat) (x4 : Nat) (h1 : x1 + x2 = (21 : Nat)) (h2 : ¬(20 : Nat) < x1) (h3 : (21 : Nat) ≤ x3 ∧ (21 : Nat) ≤ x4) : (20 : Nat) < x1 + x3 := by omega
theorem omq128 (x1 : Nat) (x2 : Nat) (x3 : Nat) (h1 : x1 + x2 = (21 : Nat)) (h2 : (1 : Nat) ≤ x3) (h3 : (20 : Nat) < x1 + x3) : (20 : Int) < (↑x1 : Int) + (1 : Int) + (↑(x3 - (1 : Nat)) : Int) := by omega
theorem omq129 (x1 : Nat) (x2 : Nat) (x3 : Nat) (h1 : x1 + x2 = (21 : Nat)) (h2 : (1 : Nat) ≤ x3) (h3 : ¬(20 : Nat) < x1 + x3) : (↑x1 : Int) + (1 : Int) + (↑(x3 - (1 : Nat)) : Int) ≤ (20 : Int) := by omega
theorem omq130 (x1 : Nat) (x2 : Nat) (h1 : ¬x1 ≤ x2) : x2 ≤ x1 := by omega
theorem omq131 (x1 : Nat) (x2 : Nat) (x3 : Nat) (x4 : Nat) (x5 : Nat) (h1 : x1 = x2 + (x3 + x4)) (h2 : ¬x5 < x2) (h3 : x5 < x2 + x3) : min (x5 - x2) x3 = x5 - x2 := by omega
theorem omq132 (x1 : Nat) (x2 : Nat) (x3 : Nat) (x4 : Nat) (x5 : Nat) (h1 : x1 = x2 + (x3 + x4)) (h2 : ¬x5 < x2) (h3 : x5 < x2 + x3) : min (x5 + (1 : Nat) - x2) x3 = x5 - x2 + (1 : Nat) := by omega
theorem omq133 (x1 : Nat) (x2 : Nat) (x3 : Nat) (x4 : Nat) (x5 : Nat) (h1 : x1 = x2 + (x3 + x4)) (h2 : x5 < x2 + x3) : x5 - x2 - x3 = (0 : Nat) := by omega
theorem omq134 (x1 : Nat) (x2 : Nat) (x3 : Nat) (x4 : Nat) (x5 : Nat) (h1 : x1 = x2 + (x3 + x4)) (h2 : x5 < x2 + x3) : x5 + (1 : Nat) - x2 - x3 = (0 : Nat) := by omega
theorem omq135 (x1 : Nat) (x2 : Nat) (x3 : Nat) (x4 : Nat) (x5 : Nat) (x6 : Nat) (h1 : x1 + x2 = (21 : Nat)) (h2 : ¬(20 : Nat) < x1 + x3) (h3 : (0 : Nat) < x4 ∧ (20 : Nat) < x1 + x3) : x5 + (1 : Nat) ≤ x6 := by omega
theorem omq136 (x1 : Nat) (x2 : Nat)  : min (min x1 x2) x2 = min x1 x2 := by omega
theorem omq137 (x1 : Nat) (x2 : Nat)  : min x1 x2 = min x1 x2 := by omega
theorem omq138 (x1 : Nat) (x2 : Nat) (x3 : Nat)  : (↑(x1 + (1 : Nat) * (x2 + x3) + (0 : Nat)) : Int) = (↑(x1 + (0 : Nat)) : Int) + (↑x2 : Int) + (↑x3 : Int) := by omega
theorem omq139 (x1 : Nat) (h1 : (1 : Nat) ≤ x1) : (1 : Int) + (↑(x1 - (1 : Nat)) : Int) = (↑x1 : Int) := by omega
theorem omq140 (x1 : Nat)  : ¬(↑x1 : Int) > (↑x1 : Int) := by omega
theorem omq141 (x1 : Nat) (h1 : (1 : Nat) ≤ x1) (h2 : (1 : Int) + (↑(x1 - (1 : Nat)) : Int) = (↑x1 : Int)) : (↑x1 : Int) > (↑(0 : Nat) : Int) := by omega
theorem omq142 (x1 : Nat) (x2 : Nat) (x3 : Nat) (x4 : Nat) (x5 : Nat) (h1 : x1 ≤ (3 : Nat)) (h2 : x2 = x3 + (x1 + x4)) (h3 : ¬x5 < x3) (h4 : ¬x5 < x3 + x1) : x1 ≤ x5 - x3 := by omega
theorem omq143 (x1 : Nat) (x2 : Nat) (x3 : Nat) (x4 : Nat) (x5 : Nat) (h1 : x1 ≤ (3 : Nat)) (h2 : x2 = x3 + (x1 + x4)) (h3 : ¬x5 < x3) (h4 : ¬x5 < x3 + x1) : min (x5 - x3) x1 = x1 := by omega
theorem omq144 (x1 : Nat) (x2 : Nat) (x3 : Nat) (x4 : Nat) (x5 : Nat) (h1 : x1 = x2 + (x3 + x4)) (h2 : ¬x5 < x2) (h3 : ¬x5 < x2 + x3) (h4 : min (x5 - x2) x3 = x3) : min (x5 + (1 : Nat) - x2) x3 = x3 := by omega
theorem omq145 (x1 : Nat) (x2 : Nat) (x3 : Nat) (x4 : Nat) (x5 : Nat) (h1 : x1 = x2 + (x3 + x4)) (h2 : ¬x5 < x2 + x3) (h3 : min (x5 - x2) x3 = x3) (h4 : min (x5 + (1 : Nat) - x2) x3 = x3) : x5 + (1 : Nat) - x2 - x3 = x5 - x2 - x3 + (1 : Nat) := by omega
theorem omq146 (x1 : Nat) (x2 : Nat) (x3 : Nat) (x4 : Nat) (x5 : Nat) (x6 : Nat) (x7 : Nat) (h1 : x1 ≤ (3 : Nat)) (h2 : x2 = x3 + (x1 + x4)) (h3 : ¬x5 < x3) (h4 : ¬x5 < x3 + x1) (h5 : min (x5 - x3) x1 = x1) (h6 : min (x5 + (1 : Nat) - x3) x1 = x1) (h7 : (0 : Nat) < x1 ∧ (20 : Nat) < x6 + x7) (h8 : x5 ≤ x3) : x5 + (1 : Nat) ≤ x3 := by omega
theorem omq147 (x1 : Nat) (x2 : Nat) (x3 : Nat) (x4 : Nat)  : (↑(x1 + (x2 - x3 - x4 + (1 : Nat))) : Int) = (↑(x1 + (x2 - x3 - x4)) : Int) + (1 : Int) := by omega
theorem omq148 (x1 : Nat) (x2 : Nat) (x3 : Nat) (x4 : Nat) (h1 : x1 ≤ (3 : Nat)) (h2 : x2 ≤ (2 : Nat)) (h3 : x3 = x4 + (x1 + x2)) : min (x3 - x4) x1 = x1 := by omega
theorem omq149 (x1 : Nat) (x2 : Nat) (x3 : Nat) (x4 : Nat) (h1 : x1 ≤ (2 : Nat)) (h2 : x2 = x3 + (x4 + x1)) (h3 : min (x2 - x3) x4 = x4) : x2 - x3 - x4 = x1 := by omega
theorem omq150 (x1 : Nat) (x2 : Nat) (h1 : x1 + x2 = (21 : Nat)) (h2 : ¬(20 : Nat) < x1) : x1 ≤ (20 : Nat) := by omega
theorem omq151 (x1 : Nat) (x2 : Nat) (x3 : Nat) (x4 : Nat) (x5 : Nat) (x6 : Nat) (h1 : x1 ≤ (3 : Nat)) (h2 : x2 ≤ (2 : Nat)) (h3 : x3 = x4 + (x1 + x2)) (h4 : x4 ≤ (1 : Nat)) (h5 : min (x3 - x4) x1 = x1) (h6 : x3 - x4 - x1 = x2) (h7 : (0 : Nat) < x1) (h8 : x3 ≤ x4) : x5 + x6 ≤ (20 : Nat) := by omega
theorem omq152 (x1 : Nat) (x2 : Nat) (x3 : Nat) (h1 : x1 + x2 = (21 : Nat)) (h2 : ¬(20 : Nat) < x1 + x3) : x1 + x3 ≤ (20 : Nat) := by omega
theorem omq153 (x1 : Nat) (x2 : Nat) (x3 : Nat) (x4 : Nat) (h1 : x1 ≤ (0 : Nat)) (h2 : (1 : Nat) ≤ x1) : x2 = x3 + x4 := by omega
theorem omq154 (x1 : Nat) (x2 : Nat) (x3 : Nat) (x4 : Nat) (x5 : Nat)  : x1 + ((0 : Nat) * x2 + x3) = (0 : Nat) * (x4 + x5) + x3 + x1 := by omega
theorem omq155 (x1 : Nat) (x2 : Nat) (h1 : x1 ≤ (20 : Nat)) (h2 : (21 : Nat) ≤ x1 ∧ (21 : Nat) ≤ x2) : x1 = x2 + (1 : Nat) := by omega
theorem omq156 (x1 : Nat) (x2 : Nat) (x3 : Nat) (h1 : x1 ≤ x2 + (1 : Nat)) (h2 : x1 = x3 + (1 : Nat)) : x3 ≤ x2 := by omega
theorem omq157 (x1 : Nat) (x2 : Nat) (h1 : x1 ≤ (20 : Nat)) (h2 : x1 = x2 + (1 : Nat)) : x2 ≤ (20 : Nat) := by omega
theorem omq158 (x1 : Nat) (x2 : Nat) (x3 : Nat)  : x1 + (x2 + x3) = x2 + x3 + x1 := by omega
theorem omq159 (x1 : Nat)  : (8 : Nat) ≤ x1 + (40 : Nat) := by omega
theorem omq160 (x1 : Nat)  : (40 : Nat) ≤ (3 : Nat) * x1 + (160 : Nat) := by omega
theorem omq161 (x1 : Nat)  : (8 : Nat) + (1 : Nat) ≤ x1 + (40 : Nat) := by omega
theorem omq162 (x1 : Nat)  : (40 : Nat) + (3 : Nat) ≤ (3 : Nat) * x1 + (160 : Nat) := by omega
theorem omq163 (x1 : Nat)  : (21 : Nat) + (12 : Nat) + (1 : Nat) ≤ x1 + (40 : Nat) := by omega
theorem omq164 (x1 : Nat)  : (3 : Nat) * (21 : Nat) + (60 : Nat) + (3 : Nat) ≤ (3 : Nat) * x1 + (160 : Nat) := by omega
theorem omq165 (x1 : Nat) (x2 : Nat) (h1 : x1 + x2 ≤ (10000 : Nat)) : ¬(10000 : Int) < (↑(x1 + x2) : Int) := by omega
theorem omq166  (h1 : (20 : Nat) < (0 : Nat)) : False := by omega
theorem omq167 (x1 : Nat) (h1 : (20 : Nat) < (0 : Nat) + x1) (h2 : (0 : Nat) + x1 ≤ (20 : Nat)) : False := by omega
theorem omq168 (x1 : Nat) (h1 : ¬x1 = (0 : Nat)) : ¬x1 = (0 : Nat) := by omega
theorem omq169 (x1 : Nat) (x2 : Nat) (h1 : x1 < x2) : x1 < x2 := by omega
theorem omq170 (x1 : Nat) (x2 : Nat) (x3 : Nat) (x4 : Nat) (h1 : x1 ≤ (3 : Nat)) (h2 : x2 = x1 + x3) (h3 : x4 < x1) : (0 : Nat) < x1 := by omega
theorem omq171 (x1 : Nat) (x2 : Nat) (h1 : x1 ≤ x2) (h2 : (1 : Nat) ≤ x1) : x2 = x2 - (1 : Nat) + (1 : Nat) := by omega
theorem omq172 (x1 : Nat) (x2 : Nat) (h1 : x1 ≤ (20 : Nat)) (h2 : x1 + x2 ≤ (20 : Nat)) : x2 ≤ (20 : Nat) := by omega
theorem omq173 (x1 : Nat) (x2 : Nat) (x3 : Nat) (x4 : Nat) (h1 : x1 ≤ (3 : Nat)) (h2 : x2 = x1 + x3) (h3 : x4 < x1) : (1 : Nat) ≤ x1 := by omega
theorem omq174 (x1 : Nat) (x2 : Nat) (x3 : Nat) (x4 : Nat) (x5 : Nat) (x6 : Nat) (h1 : x1 ≤ (2 : Nat)) (h2 : x2 + x1 ≤ (10000 : Nat)) (h3 : x3 = x4 + x5) (h4 : (1 : Nat) * (x3 + x6) ≤ x2) : x3 + x6 ≤ (10000 : Nat) := by omega
theorem omq175 (x1 : Nat) (x2 : Nat) (x3 : Nat) (h1 : x1 ≤ (20 : Nat)) (h2 : x1 + x2 ≤ (20 : Nat)) (h3 : (21 : Nat) ≤ x2 ∧ (21 : Nat) ≤ x3) : x2 = x3 + (1 : Nat) := by omega
theorem omq176 (x1 : Nat) (x2 : Nat) (x3 : Nat) (h1 : x1 + x2 ≤ (20 : Nat)) (h2 : x2 = x3 + (1 : Nat)) : x1 + (1 : Nat) + x3 ≤ (20 : Nat) := by omega
theorem omq177 (x1 : Nat) (x2 : Nat) (x3 : Nat) (x4 : Nat) (x5 : Nat) (h1 : x1 = x2 + x3) (h2 : x4 + x5 = x1 + x4) : x5 = x1 := by omega
theorem omq178 (x1 : Nat) (x2 : Nat) (x3 : Nat) (x4 : Nat) (h1 : x1 = x2 + x3) (h2 : x4 < x2) : min (x4 + (1 : Nat)) x2 = x4 + (1 : Nat) := by omega
theorem omq179 (x1 : Nat) (x2 : Nat) (x3 : Nat) (x4 : Nat) (h1 : x1 = x2 + x3) (h2 : x4 < x2) (h3 : min (x4 + (1 : Nat)) x2 = x4 + (1 : Nat)) : x4 + (1 : Nat) - x2 = (0 : Nat) := by omega
theorem omq180 (x1 : Nat) (x2 : Nat) (x3 : Nat) (x4 : Nat) (h1 : x1 = x2 + x3) (h2 : x4 < x2) (h3 : min (x4 + (1 : Nat)) x2 = x4 + (1 : Nat)) : min x4 x2 = x4 := by omega
theorem omq181 (x1 : Nat) (x2 : Nat) (x3 : Nat) (x4 : Nat) (h1 : x1 = x2 + x3) (h2 : x4 < x2) (h3 : min (x4 + (1 : Nat)) x2 = x4 + (1 : Nat)) (h4 : min x4 x2 = x4) : x4 - x2 = (0 : Nat) := by omega
theorem omq182 (x1 : Nat) (x2 : Nat) (x3 : Nat) (x4 : Nat) (h1 : x1 = x2 + x3) (h2 : x4 < x2) (h3 : min (x4 + (1 : Nat)) x2 = x4 + (1 : Nat)) (h4 : min x4 x2 = x4) : x4 + (1 : Nat) ≤ x2 := by omega
theorem omq183 (x1 : Nat) (x2 : Nat) (x3 : Nat) (x4 : Nat) (x5 : Nat) (x6 : Nat) (x7 : Nat) (x8 : Nat) (h1 : x1 ≤ (2 : Nat)) (h2 : x2 + x1 ≤ (10000 : Nat)) (h3 : x3 = x4 + x5) (h4 : x6 = x3) (h5 : x7 + (1 : Nat) * (x3 + x8) ≤ x2) : x7 + (x3 + x8) ≤ (10000 : Nat) := by omega
theorem omq184 (x1 : Nat) (x2 : Nat) (x3 : Nat) (x4 : Nat) (x5 : Nat) (x6 : Nat) (x7 : Nat) (h1 : x1 = x2 + x3) (h2 : x1 + x4 ≤ (10000 : Nat)) (h3 : x5 = x1) (h4 : x6 = x7) (h5 : x6 + (x1 + x4) ≤ (10000 : Nat)) (h6 : x4 = (1 : Nat)) : x6 ≤ (16777216 : Nat) := by omega
theorem omq185 (x1 : Nat) (x2 : Nat) (h1 : x1 ≤ (3 : Nat) ∧ x2 ≤ (2 : Nat)) : x1 + x2 ≤ (5 : Nat) := by omega
theorem omq186 (x1 : Nat) (h1 : x1 ≤ (5 : Nat)) : x1 + (1 : Nat) ≤ (16777216 : Nat) := by omega
theorem omq187 (x1 : Nat)  : x1 < x1 + (1 : Nat) := by omega
theorem omq188 (x1 : Nat) (x2 : Nat) (h1 : x1 ≤ (20 : Nat)) (h2 : x1 + x2 ≤ (20 : Nat)) (h3 : (1 : Nat) ≤ x2) : x1 + (1 : Nat) ≤ (20 : Nat) := by omega
theorem omq189 (x1 : Nat) (x2 : Nat) (x3 : Nat) (x4 : Nat) (x5 : Nat) (h1 : x1 = x2 + x3) (h2 : x1 + x4 ≤ (10000 : Nat)) (h3 : x5 = x1) (h4 : x4 = (1 : Nat)) : x2 + x3 ≤ (10000 : Nat) := by omega
theorem omq190 (x1 : Nat)  : x1 + (40 : Nat) + (1 : Nat) ≤ x1 + (1 : Nat) + (40 : Nat) := by omega
theorem omq191 (x1 : Nat)  : (3 : Nat) * x1 + (160 : Nat) + (3 : Nat) ≤ (3 : Nat) * (x1 + (1 : Nat)) + (160 : Nat) := by omega
theorem omq192 (x1 : Nat) (h1 : x1 ≤ (20 : Nat)) (h2 : x1 + (1 : Nat) = (0 : Nat)) : False := by omega
theorem omq193 (x1 : Nat) (x2 : Nat) (x3 : Nat) (x4 : Nat) (x5 : Nat) (x6 : Nat) (x7 : Nat) (h1 : x1 = x2 + x3) (h2 : x4 = x1) (h3 : x5 = x6) (h4 : x5 + (x1 + x7) ≤ (10000 : Nat)) (h5 : x7 = (1 : Nat)) : x5 + (1 : Nat) + x1 ≤ (16777216 : Nat) := by omega
theorem omq194 (x1 : Nat) (x2 : Nat) (x3 : Nat) (x4 : Nat) (x5 : Nat) (h1 : x1 = x2 + x3) (h2 : x1 + x4 ≤ (10000 : Nat)) (h3 : x5 = x1) (h4 : x4 = (0 : Nat)) : x2 + x3 ≤ (10000 : Nat) := by omega
theorem omq195 (x1 : Nat) (x2 : Nat) (x3 : Nat) (x4 : Nat) (x5 : Nat) (x6 : Nat) (x7 : Nat) (h1 : x1 = x2 + x3) (h2 : x4 = x1) (h3 : x5 = x6) (h4 : x5 + (x1 + x7) ≤ (10000 : Nat)) (h5 : x7 = (0 : Nat)) : x5 + x1 ≤ (16777216 : Nat) := by omega
theorem omq196 (x1 : Nat) (x2 : Nat) (x3 : Nat) (x4 : Nat) (h1 : x1 = x2 + x3) (h2 : ¬x4 < x2) : x2 ≤ x4 := by omega
theorem omq197 (x1 : Nat) (x2 : Nat) (x3 : Nat) (x4 : Nat) (h1 : x1 = x2 + x3) (h2 : ¬x4 < x2) : min x4 x2 = x2 := by omega
theorem omq198 (x1 : Nat) (x2 : Nat) (x3 : Nat) (x4 : Nat) (x5 : Nat) (h1 : x1 ≤ (2 : Nat)) (h2 : x2 = x3 + x1) (h3 : x4 < x3 + x1) (h4 : ¬x4 < x3) (h5 : min x4 x3 = x3) (h6 : x3 = (0 : Nat)) : (0 : Nat) * x5 + min (x4 - (0 : Nat)) x1 ≤ (16777216 : Nat) := by omega
theorem omq199 (x1 : Nat) (x2 : Nat) (x3 : Nat) (x4 : Nat) (x5 : Nat) (h1 : x1 + x2 ≤ (10000 : Nat)) (h2 : x3 = x4 + x2) (h3 : min x5 x4 = x4) : x1 + min (x5 - x4) x2 ≤ (16777216 : Nat) := by omega
theorem omq200 (x1 : Nat) (x2 : Nat) (x3 : Nat) (x4 : Nat) (h1 : x1 = x2 + x3) (h2 : ¬x4 < x2) : min (x4 + (1 : Nat)) x2 = min x4 x2 := by omega
theorem omq201 (x1 : Nat) (x2 : Nat) (x3 : Nat) (x4 : Nat) (h1 : x1 = x2 + x3) (h2 : ¬x4 < x2) : x4 + (1 : Nat) - x2 = x4 - x2 + (1 : Nat) := by omega
theorem omq202 (x1 : Nat) (x2 : Nat) (x3 : Nat) (h1 : x1 ≤ (3 : Nat)) (h2 : x2 ≤ (2 : Nat)) (h3 : x3 = x1 + x2) : min x3 x1 = x1 := by omega
theorem omq203 (x1 : Nat) (x2 : Nat) (x3 : Nat) (h1 : x1 ≤ (3 : Nat)) (h2 : x2 ≤ (2 : Nat)) (h3 : x3 = x1 + x2) : x3 - x1 = x2 := by omega
theorem omq204 (x1 : Nat) (x2 : Nat) (x3 : Nat) (h1 : (20 : Nat) < x1) (h2 : (0 : Nat) + x1 ≤ (20 : Nat)) : (10000 : Nat) < x2 + x3 := by omega
theorem omq205 (x1 : Nat) (x2 : Nat) (h1 : (10000 : Nat) < x1 + x2) : (10000 : Int) < (↑((1 : Nat) * (x1 + x2) + (0 : Nat)) : Int) := by omega
theorem omq206 (x1 : Nat) (x2 : Nat) (x3 : Nat) (h1 : x1 = x2) (h2 : x3 < x2) : x3 < x1 := by omega
theorem omq207 (x1 : Nat) (h1 : x1 < (1000 : Nat)) : (0 : Int) ≤ (↑x1 : Int) := by omega
theorem omq208 (x1 : Nat) (h1 : x1 < (1000 : Nat)) : (↑x1 : Int) < (2 : Int) ^ (63 : Nat) := by omega
theorem omq209 (x1 : Nat) (h1 : x1 ≤ (2 : Nat)) : x1 = (0 : Nat) ∨ x1 = (1 : Nat) ∨ x1 = (2 : Nat) := by omega
theorem omq210 (x1 : Nat) (x2 : Nat) (h1 : x1 < (1000 : Nat)) (h2 : x2 = x1) : x2 < (2 : Nat) ^ (62 : Nat) := by omega
theorem omq211 (x1 : Nat) (x2 : Nat) (x3 : Nat) (h1 : x1 = x2) (h2 : x3 + x2 = (1 : Nat)) : (↑x3 : Int) + (↑x1 : Int) = (1 : Int) := by omega
theorem omq212 (x1 : Nat) (x2 : Nat) (x3 : Nat) (h1 : x1 = x2) (h2 : ¬x3 + x2 = (1 : Nat)) : ¬(↑x3 : Int) + (↑x1 : Int) = (1 : Int) := by omega
theorem omq213 (x1 : Nat) (h1 : ¬x1 = (2 : Nat)) : ¬(↑x1 : Int) = (2 : Int) := by omega
theorem omq214 (x1 : Nat) (x2 : Nat) (h1 : x1 < x2) : x2 - x1 = x2 - (x1 + (1 : Nat)) + (1 : Nat) := by omega
theorem omq215 (x1 : Nat) (x2 : Nat) (h1 : x1 < x2) : x2 - (x1 + (1 : Nat)) < x2 := by omega
theorem omq216 (x1 : Nat) (x2 : Nat) (h1 : x1 < x2) : x2 - (x1 + (1 : Nat)) = x2 - (1 : Nat) - x1 := by omega
theorem omq217 (x1 : Nat) (h1 : x1 ≤ (100 : Nat)) : x1 ≤ (16777216 : Nat) := by omega
theorem omq218 (x1 : Nat) (h1 : x1 ≤ (100 : Nat)) : x1 - (0 : Nat) = x1 := by omega
theorem omq219 (x1 : Nat) (h1 : x1 ≤ (3 : Nat)) : x1 = (0 : Nat) ∨ x1 = (1 : Nat) ∨ x1 = (2 : Nat) ∨ x1 = (3 : Nat) := by omega
theorem omq220 (x1 : Nat)  : x1 - x1 = (0 : Nat) := by omega
theorem omq221 (x1 : Nat) (h1 : x1 < (2 : Nat) ^ (63 : Nat)) : -(2 : Int) ^ (63 : Nat) ≤ (↑x1 : Int) := by omega
theorem omq222 (x1 : Nat) (h1 : x1 < (2 : Nat) ^ (63 : Nat)) : (↑x1 : Int) < (2 : Int) ^ (63 : Nat) := by omega
theorem omq223 (x1 : Nat) (h1 : (0 : Nat) < x1) (h2 : x1 < (1000 : Nat)) : (0 : Int) < (↑x1 : Int) := by omega
theorem omq224 (x1 : Int) (x2 : Nat) (h1 : (0 : Int) ≤ x1) (h2 : x1 < (↑x2 : Int)) : x1.toNat < x2 := by omega
theorem omq225 (x1 : Int) (h1 : (0 : Int) ≤ x1) : x1 = (↑x1.toNat : Int) := by omega
theorem omq226 (x1 : Int) (h1 : (0 : Int) ≤ x1) : (0 : Int) ≤ x1 := by omega
theorem omq227 (x1 : Nat) (h1 : (0 : Nat) < x1) (h2 : x1 < (1000 : Nat)) : (0 : Int) ≤ (↑x1 : Int) := by omega
theorem omq228 (x1 : Nat) (x2 : Nat) (h1 : (0 : Nat) < x1) (h2 : x1 < (1000 : Nat)) (h3 : x2 = x1) : x2 < (2 : Nat) ^ (62 : Nat) := by omega
theorem omq229 (x1 : Nat) (x2 : Nat) (h1 : (0 : Nat) < x1) (h2 : x1 < (1000 : Nat)) (h3 : x2 = x1) : (0 : Int) ≤ (↑x2 : Int) := by omega
theorem omq230 (x1 : Nat) (x2 : Nat) (h1 : (0 : Nat) < x1) (h2 : x1 < (1000 : Nat)) (h3 : x2 = x1) : (0 : Int) < (↑x2 : Int) := by omega
theorem omq231 (x1 : Nat) (x2 : Nat) (x3 : Int) (h1 : (0 : Nat) < x1) (h2 : x1 < (1000 : Nat)) (h3 : x2 = x1) (h4 : x3 < (↑x2 : Int)) : x3 < (2 : Int) ^ (63 : Nat) := by omega
theorem omq232 (x1 : Nat) (x2 : Nat) (h1 : x1 ≤ (63 : Nat)) (h2 : x2 = x1) : x2 ≤ (16777216 : Nat) := by omega
theorem omq233 (x1 : Nat) (x2 : Nat) (h1 : x1 ≤ (63 : Nat)) (h2 : x2 = x1) : min (60 : Nat) x2 ≤ (16777216 : Nat) := by omega
theorem omq234 (x1 : Nat) (x2 : Nat) (h1 : x1 ≤ (63 : Nat)) (h2 : x2 = x1) : min (60 : Nat) x1 ≤ min (60 : Nat) x2 := by omega
theorem omq235 (x1 : Nat) (x2 : Nat) (x3 : Nat) (x4 : Nat) (x5 : Nat) (h1 : x1 ≤ (63 : Nat)) (h2 : x2 = x1) (h3 : x3 = x4) (h4 : x3 = x5) (h5 : x3 = min (60 : Nat) x1) : (↑x3 : Int) < (2 : Int) ^ (63 : Nat) := by omega
theorem omq236 (x1 : Nat) (x2 : Nat) (h1 : x1 ≤ (63 : Nat)) (h2 : x2 = x1) (h3 : (0 : Nat) = min (60 : Nat) x1) (h4 : (0 : Nat) < x1) : False := by omega
theorem omq237 (x1 : Nat) (x2 : Nat) (x3 : Nat) (x4 : Nat) (x5 : Nat) (h1 : x1 ≤ (63 : Nat)) (h2 : x2 = x1) (h3 : x3 = x4) (h4 : x3 = x5) (h5 : x3 = min (60 : Nat) x1) (h6 : (0 : Nat) < x1) : (0 : Nat) < min (60 : Nat) x1 := by omega
theorem omq238 (x1 : Nat) (x2 : Nat) (h1 : x1 ≤ (63 : Nat)) (h2 : x2 = x1) (h3 : (0 : Nat) < x1) : min (60 : Nat) x1 < (1000 : Nat) := by omega
theorem omq239 (x1 : Nat) (h1 : (0 : Nat) < x1) : (0 : Nat) < x1 := by omega
theorem omq240 (x1 : Nat) (x2 : Nat) (x3 : Nat) (h1 : x1 = x2) (h2 : x2 - x3 = (0 : Nat)) (h3 : x3 ≤ x2) : x3 = x2 := by omega
theorem omq241 (x1 : Nat) (x2 : Nat) (x3 : Nat) (x4 : Nat) (h1 : x1 = x2) (h2 : x2 - x3 = x4 + (1 : Nat)) (h3 : x3 ≤ x2) : x3 < x2 := by omega
theorem omq242 (x1 : Nat) (x2 : Nat) (x3 : Nat) (x4 : Nat) (h1 : x1 ≤ (100 : Nat)) (h2 : x2 = x1) (h3 : x3 ≤ x4) (h4 : x4 < x1) : x3 ≤ (16777216 : Nat) := by omega
theorem omq243 (x1 : Nat) (x2 : Nat) (h1 : x1 ≤ x2) : x1 ≤ x2 + (1 : Nat) := by omega
theorem omq244 (x1 : Nat) (x2 : Nat) (h1 : x1 ≤ x2) : x1 + (1 : Nat) ≤ x2 + (1 : Nat) := by omega
theorem omq245 (x1 : Nat) (x2 : Nat) (x3 : Nat) (x4 : Nat) (h1 : x1 = x2) (h2 : x2 - x3 = x4 + (1 : Nat)) (h3 : x3 < x2) : x2 - (x3 + (1 : Nat)) = x4 := by omega
theorem omq246 (x1 : Nat) (x2 : Nat) (h1 : x1 < (999 : Nat)) (h2 : x2 ≤ x1) : x2 < (1000 : Nat) := by omega
theorem omq247 (x1 : Nat) (x2 : Nat) (x3 : Nat) (h1 : x1 = x2) (h2 : ¬x3 < x1) : x1 ≤ x3 := by omega
theorem omq248 (x1 : Nat) (x2 : Nat) (h1 : x1 - x2 = (0 : Nat)) : x1 - x2 = (0 : Nat) := by omega
theorem omq249 (x1 : Nat) (x2 : Nat) (x3 : Nat) (h1 : x1 = x2) (h2 : ¬x3 < x1) (h3 : x3 - x1 = (0 : Nat)) : x3 = x2 := by omega
theorem omq250 (x1 : Nat) (h1 : (1 : Nat) ≤ x1) (h2 : x1 ≤ (4 : Nat)) : x1 = (1 : Nat) ∨ x1 = (2 : Nat) ∨ x1 = (3 : Nat) ∨ x1 = (4 : Nat) := by omega
theorem omq251 (x1 : Nat) (h1 : x1 < (4 : Nat)) : (2 : Nat) + x1 < (999 : Nat) := by omega
theorem omq252 (x1 : Nat) (h1 : x1 = (4 : Nat)) : x1 ≤ (100 : Nat) := by omega
theorem omq253 (x1 : Nat)  : (1 : Int) + (↑x1 : Int) - (0 : Int) = (↑(x1 + (1 : Nat)) : Int) := by omega
theorem omq254 (x1 : Nat) (h1 : x1 < (23 : Nat)) (h2 : ¬(0 : Int) < (1 : Int) + (↑x1 : Int)) : (0 : Int) = (↑(x1 + (1 : Nat)) : Int) := by omega
theorem omq255 (x1 : Nat) (h1 : x1 < (23 : Nat)) : ((1 : Int) + (↑x1 : Int)).natAbs < (2 : Nat) ^ (62 : Nat) := by omega
theorem omq256 (x1 : Nat) (h1 : x1 < (23 : Nat)) : x1 + (1 : Nat) ≤ (16777216 : Nat) := by omega
theorem omq257 (x1 : Nat) (x2 : Nat) (x3 : Nat) (h1 : x1 < (23 : Nat)) (h2 : x2 < x1 + (1 : Nat)) (h3 : x3 = x2) : (6 : Nat) + x2 < (999 : Nat) := by omega
theorem omq258 (x1 : Nat)  : (1 : Int) + (↑x1 : Int) = (↑((1 : Nat) + x1) : Int) := by omega
theorem omq259 (x1 : Nat) (h1 : x1 < (3 : Nat)) : (1 : Nat) ≤ (1 : Nat) + x1 ∧ (1 : Nat) + x1 ≤ (3 : Nat) := by omega
theorem omq260 (x1 : Nat)  : (1 : Int) + (↑x1 : Int) = (↑(x1 + (1 : Nat)) : Int) := by omega
theorem omq261 (x1 : Nat) (x2 : Nat) (x3 : Nat) (h1 : x1 < (23 : Nat)) (h2 : x2 = x1 + (1 : Nat)) (h3 : x3 = x1 + (1 : Nat)) : x1 + (1 : Nat) < (2 : Nat) ^ (62 : Nat) := by omega
theorem omq262 (x1 : Nat) (x2 : Nat) (x3 : Nat) (h1 : x1 < (23 : Nat)) (h2 : x2 = x1 + (1 : Nat)) (h3 : x3 = x1 + (1 : Nat)) : (6 : Nat) + (x1 + (1 : Nat)) ≤ (30 : Nat) + (4 : Nat) * (0 : Nat) := by omega
theorem omq263 (x1 : Nat) (x2 : Nat) (x3 : Nat) (x4 : Nat) (x5 : Nat) (h1 : x1 < (23 : Nat)) (h2 : x2 = x1 + (1 : Nat)) (h3 : x3 = x1 + (1 : Nat)) (h4 : x4 < x1 + (1 : Nat)) (h5 : x5 = x4) : (30 : Nat) + (4 : Nat) * x4 < (999 : Nat) := by omega
theorem omq264 (x1 : Nat) (h1 : x1 < (3 : Nat)) (h2 : ¬(0 : Int) < (↑x1 : Int)) : (0 : Int) = (↑x1 : Int) := by omega
theorem omq265 (x1 : Nat) (h1 : x1 < (3 : Nat)) : (↑x1 : Int).natAbs < (2 : Nat) ^ (62 : Nat) := by omega
theorem omq266 (x1 : Nat) (h1 : x1 < (3 : Nat)) : x1 ≤ (16777216 : Nat) := by omega
theorem omq267 (x1 : Nat) (x2 : Nat) (x3 : Nat) (x4 : Nat) (x5 : Nat) (x6 : Nat) (x7 : Nat) (x8 : Nat) (h1 : x1 < (23 : Nat)) (h2 : x2 = x1 + (1 : Nat)) (h3 : x3 = x1 + (1 : Nat)) (h4 : x4 < x1 + (1 : Nat)) (h5 : x5 = x4) (h6 : x6 < (3 : Nat)) (h7 : x7 < x6) (h8 : x8 = x7) : (30 : Nat) + (4 : Nat) * x4 + (1 : Nat) + x7 < (999 : Nat) := by omega
theorem omq268 (x1 : Nat) (h1 : x1 < (4 : Nat)) : (1 : Nat) ≤ (1 : Nat) + x1 ∧ (1 : Nat) + x1 ≤ (4 : Nat) := by omega
theorem omq269 (x1 : Nat) (x2 : Nat) (x3 : Nat) (x4 : Nat) (x5 : Nat) (h1 : x1 = x2 + (1 : Nat)) (h2 : x3 = x2 + (1 : Nat)) (h3 : x4 < x2 + (1 : Nat)) (h4 : x5 = x4) : x4 < x3 := by omega
theorem omq270 (x1 : Nat) (x2 : Nat) (x3 : Nat) (h1 : x1 < (3 : Nat)) (h2 : x2 = x1) (h3 : x3 = x1) : x3 ≤ (2 : Nat) := by omega
theorem omq271 (x1 : Nat) (x2 : Nat) (x3 : Nat) (x4 : Nat) (x5 : Nat) (h1 : x1 = x2 + (1 : Nat)) (h2 : x3 = x2 + (1 : Nat)) (h3 : x4 = x5) (h4 : x5 = x2) : (↑x5 : Int) = (↑(x2 + (1 : Nat)) : Int) - (1 : Int) := by omega
theorem omq272 (x1 : Nat) (x2 : Nat) (x3 : Nat) (x4 : Nat) (x5 : Nat) (h1 : x1 < (23 : Nat)) (h2 : x2 = x1 + (1 : Nat)) (h3 : x3 = x1 + (1 : Nat)) (h4 : x4 = x5) (h5 : x5 = x1) : (0 : Int) ≤ (↑x5 : Int) := by omega
theorem omq273 (x1 : Nat) (x2 : Nat) (x3 : Nat) (x4 : Nat) (x5 : Nat) (h1 : x1 < (23 : Nat)) (h2 : x2 = x1 + (1 : Nat)) (h3 : x3 = x1 + (1 : Nat)) (h4 : x4 = x5) (h5 : x5 = x1) : (↑x5 : Int) < (2 : Int) ^ (63 : Nat) := by omega
theorem omq274 (x1 : Nat) (x2 : Nat) (x3 : Nat) (x4 : Nat) (x5 : Nat) (x6 : Nat) (x7 : Nat) (x8 : Nat) (h1 : x1 < (23 : Nat)) (h2 : x2 = x1 + (1 : Nat)) (h3 : x3 = x1 + (1 : Nat)) (h4 : x4 = x5) (h5 : x6 < (3 : Nat)) (h6 : x7 = x6) (h7 : x8 = x6) (h8 : x5 = x1) : (30 : Nat) + (4 : Nat) * x5 + (1 : Nat) + x6 < (999 : Nat) := by omega
theorem omq275 (x1 : Nat) (x2 : Nat) (x3 : Nat) (x4 : Nat) (x5 : Nat) (h1 : x1 < (23 : Nat)) (h2 : x2 = x1 + (1 : Nat)) (h3 : x3 = x1 + (1 : Nat)) (h4 : x4 = x5) (h5 : x5 = x1) : x4 ≤ (16777216 : Nat) := by omega
theorem omq276 (x1 : Nat) (x2 : Nat) (x3 : Nat) (x4 : Nat) (h1 : x1 < (3 : Nat)) (h2 : x2 = x1) (h3 : x3 = x1) : (30 : Nat) + (4 : Nat) * x4 + (1 : Nat) + x1 + (1 : Nat) ≤ (30 : Nat) + (4 : Nat) * (x4 + (1 : Nat)) := by omega
theorem omq277 (x1 : Nat) (x2 : Nat) (x3 : Nat) (x4 : Nat) (x5 : Nat) (h1 : x1 = x2 + (1 : Nat)) (h2 : x3 = x2 + (1 : Nat)) (h3 : x4 = x5) (h4 : x5 = x2) (h5 : x5 + (1 : Nat) < x2 + (1 : Nat)) : ¬x5 + (1 : Nat) < x2 + (1 : Nat) := by omega
theorem omq278 (x1 : Nat) (x2 : Nat) (x3 : Nat) (x4 : Nat) (x5 : Nat) (h1 : x1 = x2 + (1 : Nat)) (h2 : x3 = x2 + (1 : Nat)) (h3 : x4 = x5) (h4 : ¬x5 = x2) : ¬(↑x5 : Int) = (↑(x2 + (1 : Nat)) : Int) - (1 : Int) := by omega
theorem omq279 (x1 : Nat) (x2 : Nat) (h1 : x1 = x2) : (0 : Int) ≤ (↑x2 : Int) := by omega
theorem omq280 (x1 : Nat) (x2 : Nat) (x3 : Nat) (x4 : Nat) (x5 : Nat) (h1 : x1 < (23 : Nat)) (h2 : x2 = x1 + (1 : Nat)) (h3 : x3 = x1 + (1 : Nat)) (h4 : x4 < x1 + (1 : Nat)) (h5 : x5 = x4) : (↑x4 : Int) < (2 : Int) ^ (63 : Nat) := by omega
theorem omq281 (x1 : Nat) (x2 : Nat) (x3 : Nat) (x4 : Nat) (x5 : Nat) (x6 : Nat) (x7 : Nat) (x8 : Nat) (h1 : x1 < (23 : Nat)) (h2 : x2 = x1 + (1 : Nat)) (h3 : x3 = x1 + (1 : Nat)) (h4 : x4 < x1 + (1 : Nat)) (h5 : x5 = x4) (h6 : x6 < (3 : Nat)) (h7 : x7 = x6) (h8 : x8 = x6) : (30 : Nat) + (4 : Nat) * x4 + (1 : Nat) + x6 < (999 : Nat) := by omega
theorem omq282 (x1 : Nat) (x2 : Nat) (x3 : Nat) (x4 : Nat) (x5 : Nat) (h1 : x1 < (23 : Nat)) (h2 : x2 = x1 + (1 : Nat)) (h3 : x3 = x1 + (1 : Nat)) (h4 : x4 < x1 + (1 : Nat)) (h5 : x5 = x4) : x5 ≤ (16777216 : Nat) := by omega
theorem omq283 (x1 : Nat) (x2 : Nat) (x3 : Nat) (x4 : Nat) (x5 : Nat) (h1 : x1 = x2 + (1 : Nat)) (h2 : x3 = x2 + (1 : Nat)) (h3 : x4 = x5) (h4 : ¬x5 = x2) (h5 : x5 + (1 : Nat) = x2 + (1 : Nat)) : ¬x5 + (1 : Nat) = x2 + (1 : Nat) := by omega
theorem omq284 (x1 : Nat) (x2 : Nat) (x3 : Nat) (x4 : Nat) (h1 : x1 < (23 : Nat)) (h2 : x2 = x1 + (1 : Nat)) (h3 : x3 = x1 + (1 : Nat)) (h4 : x4 = x1 + (1 : Nat)) : (0 : Nat) < x4 := by omega
theorem omq285 (x1 : Nat) (x2 : Nat) (x3 : Nat) (x4 : Nat) (h1 : x1 < (23 : Nat)) (h2 : x2 = x1 + (1 : Nat)) (h3 : x3 = x1 + (1 : Nat)) (h4 : x4 = x1 + (1 : Nat)) : x4 ≤ (23 : Nat) := by omega
theorem omq286 (x1 : Nat) (h1 : x1 ≤ (1000 : Nat)) : x1 ≤ (16777216 : Nat) := by omega
theorem omq287 (x1 : Int) (h1 : (1 : Int) ≤ x1) (h2 : x1 ≤ (4 : Int)) : x1 = (1 : Int) ∨ x1 = (2 : Int) ∨ x1 = (3 : Int) ∨ x1 = (4 : Int) := by omega
theorem omq288 (x1 : Int) (x2 : Nat) (h1 : (10 : Int) ≤ x1 ∧ x1 < (10 : Int) + (↑x2 : Int)) : (x1 - (10 : Int)).toNat < x2 := by omega
theorem omq289 (x1 : Int) (x2 : Nat) (h1 : (10 : Int) ≤ x1 ∧ x1 < (10 : Int) + (↑x2 : Int)) : x1 = (10 : Int) + (↑(x1 - (10 : Int)).toNat : Int) := by omega
theorem omq290 (x1 : Nat) (x2 : Nat) (x3 : Nat) (h1 : x1 = x2) (h2 : (1 : Int) + (↑x3 : Int) = (1 : Int) + (↑x2 : Int)) (h3 : x3 < x2) : False := by omega
theorem omq291 (x1 : Nat) (x2 : Nat) (h1 : x1 < (4 : Nat)) (h2 : x2 = x1) : x2 ≤ (1000 : Nat) := by omega
theorem omq292 (x1 : Nat) (x2 : Nat) (x3 : Nat) (h1 : x1 < (4 : Nat)) (h2 : x2 = x1) (h3 : (1 : Int) + (↑x1 : Int) = (10 : Int) + (↑x3 : Int)) : ¬(1 : Int) + (↑x1 : Int) = (10 : Int) + (↑x3 : Int) := by omega
theorem omq293 (x1 : Nat) (x2 : Nat) (h1 : (0 : Nat) < x1) (h2 : x1 ≤ (23 : Nat)) (h3 : x2 = x1) : x2 < (2 : Nat) ^ (62 : Nat) := by omega
theorem omq294 (x1 : Nat)  : (↑x1 : Int) + (1 : Int) = (↑(x1 + (1 : Nat)) : Int) := by omega
theorem omq295 (x1 : Nat) (x2 : Nat) (h1 : (0 : Nat) < x1) (h2 : x1 ≤ (23 : Nat)) (h3 : x2 = x1) : (0 : Int) ≤ (↑x1 : Int) := by omega
theorem omq296 (x1 : Nat)  : (10 : Int) + (↑x1 : Int) = (↑((10 : Nat) + x1) : Int) := by omega
theorem omq297 (x1 : Nat) (h1 : x1 ≤ (3 : Nat)) : x1 < (2 : Nat) ^ (63 : Nat) := by omega
theorem omq298 (x1 : Nat) (h1 : x1 ≤ (3 : Nat)) : x1 ≤ (256 : Nat) := by omega
theorem omq299 (x1 : Nat) (x2 : Nat) (h1 : x1 = x2) (h2 : x2 ≤ (2 : Nat)) : x1 ≤ (16777216 : Nat) := by omega
theorem omq300 (x1 : Nat) (x2 : Nat) (x3 : Nat) (x4 : Nat) (x5 : Nat) (h1 : x1 = x2) (h2 : x2 ≤ (2 : Nat)) (h3 : x3 ≤ (3 : Nat)) (h4 : x4 = x1) (h5 : x5 = x3) : x5 + x4 ≤ (16777216 : Nat) := by omega
theorem omq301 (x1 : Nat) (x2 : Nat) (x3 : Nat) (x4 : Nat) (x5 : Nat) (h1 : (0 : Nat) < x1) (h2 : x1 ≤ (23 : Nat)) (h3 : x2 = x1) (h4 : x3 < x1) (h5 : x4 = x5 + x3) (h6 : x4 = (4 : Nat) + x3) : x4 ≤ (1000 : Nat) := by omega
theorem omq302 (x1 : Nat) (h1 : (10 : Int) + (↑x1 : Int) < (10 : Int)) : False := by omega
theorem omq303 (x1 : Nat) (x2 : Nat) (h1 : (10 : Int) + (↑x1 : Int) = (10 : Int) + (↑x2 : Int)) (h2 : x1 < x2) : False := by omega
theorem omq304 (x1 : Nat) (x2 : Nat) (x3 : Nat) (x4 : Nat) (x5 : Nat) (h1 : x1 = x2) (h2 : x2 ≤ (2 : Nat)) (h3 : x3 ≤ (3 : Nat)) (h4 : x4 = x1) (h5 : x5 = x3) : x5 + x4 ≤ (10 : Nat) := by omega
theorem omq305 (x1 : Nat) (x2 : Nat) (x3 : Nat) (h1 : (0 : Nat) < x1) (h2 : x1 ≤ (23 : Nat)) (h3 : x2 = x1) (h4 : x3 < x1) : (0 : Int) ≤ (65 : Int) + (↑x3 : Int) ∧ (65 : Int) + (↑x3 : Int) < (256 : Int) := by omega
theorem omq306 (x1 : Nat) (h1 : x1 ≤ (10 : Nat)) : (1 : Nat) + x1 ≤ (16777216 : Nat) := by omega
theorem omq307 (x1 : Nat) (h1 : (10 : Int) + (↑x1 : Int) ≤ (4 : Int)) : ¬(10 : Int) + (↑x1 : Int) ≤ (4 : Int) := by omega
theorem omq308 (x1 : Nat) (x2 : Nat) (h1 : (10 : Int) + (↑x1 : Int) = (10 : Int) + (↑x2 : Int)) : x2 = x1 := by omega
theorem omq309 (x1 : Nat) (h1 : x1 ≤ (10 : Nat)) : (0 : Nat) + x1 ≤ (16777216 : Nat) := by omega
theorem omq310 (x1 : Nat) (x2 : Nat) (x3 : Nat) (h1 : (0 : Nat) < x1) (h2 : x1 ≤ (23 : Nat)) (h3 : x2 = x1) (h4 : x3 < x1) : x3 < (1000 : Nat) := by omega
theorem omq311 (x1 : Nat) (x2 : Nat) (x3 : Nat) (h1 : x1 = x2) (h2 : x2 ≤ (2 : Nat)) (h3 : x3 = x1) : x2 < (1000 : Nat) := by omega
theorem omq312 (x1 : Nat) (x2 : Nat) (h1 : (0 : Nat) < x1) (h2 : x1 ≤ (23 : Nat)) (h3 : x2 = x1) : (↑((↑x2 : Int) - (1 : Int) - (-1 : Int)).toNat : Int) = (↑x1 : Int) := by omega
theorem omq313 (x1 : Nat) (x2 : Nat) (h1 : (0 : Nat) < x1) (h2 : x1 ≤ (23 : Nat)) (h3 : x2 = x1) : -(2 : Int) ^ (62 : Nat) ≤ (↑x2 : Int) - (1 : Int) := by omega
theorem omq314 (x1 : Nat) (x2 : Nat) (h1 : (0 : Nat) < x1) (h2 : x1 ≤ (23 : Nat)) (h3 : x2 = x1) : (↑x2 : Int) - (1 : Int) < (2 : Int) ^ (62 : Nat) := by omega
theorem omq315 (x1 : Nat) (x2 : Nat) (x3 : Nat) (h1 : x1 = x2) (h2 : x3 < x2) : x2 - (1 : Nat) - x3 + (1 : Nat) + x3 = x2 := by omega
theorem omq316 (x1 : Nat) (x2 : Nat) (x3 : Nat) (x4 : Nat) (h1 : x1 = x2) (h2 : x3 + (1 : Nat) + x4 = x2) : (↑x1 : Int) - (1 : Int) + (↑x4 : Int) * (-1 : Int) = (↑x3 : Int) := by omega
theorem omq317 (x1 : Nat) (x2 : Nat) (x3 : Nat) (x4 : Nat) (h1 : x1 = x2) (h2 : x3 + (1 : Nat) + x4 = x2) : x3 < x2 := by omega
theorem omq318 (x1 : Nat) (x2 : Nat) (x3 : Nat) (x4 : Nat) (h1 : x1 = x2) (h2 : x3 + (1 : Nat) + x4 = x2) (h3 : x4 = (0 : Nat)) : x3 + (1 : Nat) = x2 := by omega
theorem omq319 (x1 : Nat) (x2 : Nat) (x3 : Nat) (x4 : Nat) (h1 : x1 = x2) (h2 : x3 < x2) (h3 : x4 + (1 : Nat) + x3 = x2) : x2 - x3 = x4 + (1 : Nat) := by omega
theorem omq320 (x1 : Nat) (x2 : Nat) (x3 : Nat) (x4 : Nat) (h1 : x1 = x2) (h2 : x3 < x2) (h3 : x4 + (1 : Nat) + x3 = x2) : (0 : Int) ≤ (↑x4 : Int) := by omega
theorem omq321 (x1 : Nat) (x2 : Nat) (x3 : Nat) (x4 : Nat) (h1 : (0 : Nat) < x1) (h2 : x1 ≤ (23 : Nat)) (h3 : x2 = x1) (h4 : x3 + (1 : Nat) + x4 = x1) : (↑x3 : Int) < (2 : Int) ^ (63 : Nat) := by omega
theorem omq322 (x1 : Nat) (x2 : Nat) (h1 : x1 ≤ (2 : Nat)) (h2 : x2 = x1) : x2 ≤ (16777216 : Nat) := by omega
theorem omq323 (x1 : Nat) (x2 : Nat) (x3 : Nat) (x4 : Nat) (h1 : x1 ≤ (2 : Nat)) (h2 : x2 ≤ (3 : Nat)) (h3 : x3 = x1) (h4 : x4 = x3) : x2 + x4 ≤ (16777216 : Nat) := by omega
theorem omq324 (x1 : Nat) (x2 : Nat) (x3 : Nat) (x4 : Nat) (h1 : (0 : Nat) < x1) (h2 : x1 ≤ (23 : Nat)) (h3 : x2 = x1) (h4 : x3 + (1 : Nat) + x4 = x1) : x3 < (1000 : Nat) := by omega
theorem omq325 (x1 : Nat) (x2 : Nat) (x3 : Nat) (h1 : x1 ≤ (2 : Nat)) (h2 : x2 = x1) (h3 : x3 = x2) : x1 < (1000 : Nat) := by omega
theorem omq326 (x1 : Nat) (x2 : Nat) (x3 : Nat) (x4 : Nat) (h1 : x1 = x2) (h2 : x3 < x2) (h3 : x4 + (1 : Nat) + x3 = x2) : x2 - (x3 + (1 : Nat)) = x4 := by omega
theorem omq327 (x1 : Nat) (x2 : Nat) (x3 : Nat) (x4 : Nat) (x5 : Nat) (h1 : x1 = x2) (h2 : x3 = x1) (h3 : x4 = x5 + x2) (h4 : x5 + x2 = (1 : Nat)) (h5 : (0 : Nat) = x5 + x2) : False := by omega
theorem omq328 (x1 : Nat) (x2 : Nat) (x3 : Nat) (x4 : Nat) (x5 : Nat) (x6 : Nat) (h1 : x1 = x2) (h2 : x3 = x1) (h3 : x4 = x5 + x2) (h4 : x5 + x2 = (1 : Nat)) (h5 : x6 + (1 : Nat) + (1 : Nat) = x5 + x2) : False := by omega
theorem omq329 (x1 : Nat) (x2 : Nat) (h1 : (0 : Nat) < x1) (h2 : x1 ≤ (23 : Nat)) (h3 : x2 = x1) (h4 : x1 = (0 : Nat)) : False := by omega
theorem omq330 (x1 : Nat) (h1 : (0 : Nat) < x1) : (8 : Nat) ≤ x1 + (10 : Nat) := by omega
theorem omq331 (x1 : Nat) (h1 : (0 : Nat) < x1) : (40 : Nat) ≤ (3 : Nat) * x1 + (60 : Nat) := by omega
theorem omq332 (x1 : Nat) (h1 : (0 : Nat) < x1) : (8 : Nat) + (1 : Nat) ≤ x1 + (10 : Nat) := by omega
theorem omq333 (x1 : Nat) (h1 : (0 : Nat) < x1) : (40 : Nat) + (3 : Nat) ≤ (3 : Nat) * x1 + (60 : Nat) := by omega
theorem omq334 (x1 : Nat) (x2 : Nat) (x3 : Nat) (h1 : x1 + x2 = x3) (h2 : (0 : Nat) < x2) : x1 < x3 := by omega
theorem omq335 (x1 : Nat)  : (0 : Int) ≤ (↑x1 : Int) := by omega
theorem omq336 (x1 : Nat) (x2 : Nat) (x3 : Nat) (h1 : x1 ≤ (23 : Nat)) (h2 : x2 + x3 = x1) (h3 : (0 : Nat) < x3) : (↑x2 : Int) < (2 : Int) ^ (63 : Nat) := by omega
theorem omq337 (x1 : Nat) (x2 : Nat) (x3 : Nat) (h1 : x1 ≤ (23 : Nat)) (h2 : x2 + x3 = x1) (h3 : (0 : Nat) < x3) : (0 : Int) ≤ (65 : Int) + (↑x2 : Int) ∧ (65 : Int) + (↑x2 : Int) < (256 : Int) := by omega
theorem omq338 (x1 : Nat) (h1 : x1 ≤ (3 : Nat)) : x1 < (2 : Nat) ^ (62 : Nat) := by omega
theorem omq339 (x1 : Nat) (x2 : Nat) (x3 : Nat) (h1 : x1 + x2 = x3) (h2 : (0 : Nat) < x2) (h3 : x1 + (1 : Nat) ≥ x3) : x1 + (1 : Nat) = x3 := by omega
theorem omq340 (x1 : Nat) (x2 : Nat) (x3 : Nat) (x4 : Nat) (h1 : x1 < x2) (h2 : x2 = (0 : Nat)) : x3 + (1 : Nat) < x4 := by omega
theorem omq341 (x1 : Nat) (x2 : Nat) (h1 : x1 < x2) : x1 + (1 : Nat) ≤ x2 := by omega
theorem omq342 (x1 : Nat)  : (1 : Nat) ≤ x1 + (1 : Nat) := by omega
theorem omq343 (x1 : Nat) (x2 : Nat) (x3 : Nat) (h1 : x1 + x2 = x3) (h2 : x1 + (1 : Nat) < x3) : x2 - (1 : Nat) < x2 := by omega
theorem omq344 (x1 : Nat) (x2 : Nat) (x3 : Nat) (h1 : x1 + x2 = x3) (h2 : x1 + (1 : Nat) < x3) : x1 + (1 : Nat) + (x2 - (1 : Nat)) = x3 := by omega
theorem omq345 (x1 : Nat) (x2 : Nat) (x3 : Nat) (h1 : x1 + x2 = x3) (h2 : x1 + (1 : Nat) < x3) : (0 : Nat) < x2 - (1 : Nat) := by omega
theorem omq346 (x1 : Nat) (x2 : Nat) (x3 : Nat) (x4 : Nat) (x5 : Nat) (x6 : Nat) (x7 : Nat) (x8 : Nat) (h1 : x1 ≤ (2 : Nat)) (h2 : x2 = x1) (h3 : x3 + x1 + x4 ≤ (10000 : Nat)) (h4 : x5 = x4) (h5 : x6 + x7 ≤ x3) (h6 : x8 = x5 + x6) : x7 ≤ (10000 : Nat) := by omega
theorem omq347 (x1 : Nat) (x2 : Nat) (x3 : Nat) (h1 : x1 + x2 = x3) (h2 : x1 + (1 : Nat) < x3) : x2 - (1 : Nat) + (10 : Nat) + (1 : Nat) ≤ x2 + (10 : Nat) := by omega
theorem omq348 (x1 : Nat) (x2 : Nat) (x3 : Nat) (h1 : x1 + x2 = x3) (h2 : x1 + (1 : Nat) < x3) : (3 : Nat) * (x2 - (1 : Nat)) + (60 : Nat) + (3 : Nat) ≤ (3 : Nat) * x2 + (60 : Nat) := by omega
theorem omq349 (x1 : Nat) (x2 : Nat) (x3 : Nat) (x4 : Nat) (x5 : Nat) (x6 : Nat) (x7 : Nat) (x8 : Nat) (x9 : Nat) (h1 : x1 ≤ (2 : Nat)) (h2 : x2 = x1) (h3 : x3 + x1 + x4 ≤ (10000 : Nat)) (h4 : x5 = x4) (h5 : x6 + x7 ≤ x3) (h6 : x8 = x5 + x6) (h7 : x9 = x7) : x5 + x6 + x7 ≤ (16777216 : Nat) := by omega
theorem omq350 (x1 : Nat) (x2 : Nat) (x3 : Nat) (x4 : Nat) (x5 : Nat) (x6 : Nat) (x7 : Nat) (h1 : x1 = x2) (h2 : x3 + x2 + x4 ≤ (10000 : Nat)) (h3 : x5 = x4) (h4 : x6 = x5 + x3) (h5 : x7 = x1) : x5 + x3 + x2 ≤ (16777216 : Nat) := by omega
theorem omq351 (x1 : Nat) (x2 : Nat) (x3 : Nat) (h1 : x1 = (0 : Nat)) (h2 : (1 : Nat) ≤ x1) : False := by omega
theorem omq352 (x1 : Nat) (x2 : Nat) (h1 : x1 < x2) (h2 : x1 + (1 : Nat) ≥ x2) : x1 + (1 : Nat) = x2 := by omega
theorem omq353 (x1 : Nat) (h1 : x1 = (0 : Nat)) (h2 : (1 : Nat) ≤ x1) : False := by omega
theorem omq354 (x1 : Nat) (x2 : Nat) (x3 : Nat) (h1 : (0 : Nat) < x1) (h2 : x1 ≤ (3 : Nat)) (h3 : x1 = (0 : Nat)) : x2 + (1 : Nat) < x3 := by omega
theorem omq355 (x1 : Nat) (h1 : (0 : Nat) < x1) (h2 : x1 ≤ (23 : Nat)) : x1 ≤ (100 : Nat) := by omega
theorem omq356 (x1 : Nat) (x2 : Nat)  : (1 : Nat) ≤ x1 - (1 : Nat) - x2 + (1 : Nat) := by omega
theorem omq357 (x1 : Nat) (x2 : Nat) (h1 : x1 + (1 : Nat) = x2) : x2 - (1 : Nat) - x1 + (1 : Nat) = (1 : Nat) := by omega
theorem omq358 (x1 : Nat) (x2 : Nat) (h1 : x1 + (1 : Nat) < x2) : x2 - (1 : Nat) - x1 + (1 : Nat) = x2 - (1 : Nat) - (x1 + (1 : Nat)) + (1 : Nat) + (1 : Nat) := by omega
theorem omq359 (x1 : Nat) (x2 : Nat) (h1 : (21 : Nat) ≤ (20 : Nat)) : x1 = x2 + (1 : Nat) := by omega
theorem omq360 (x1 : Nat) (x2 : Nat) (h1 : x1 ≤ (2 : Nat)) (h2 : x2 ≤ (3 : Nat)) (h3 : (1 : Nat) ≤ x2) : (0 : Nat) < x2 + x1 := by omega
theorem omq361 (x1 : Nat) (x2 : Nat) (h1 : x1 + (1 : Nat) ≥ x2) (h2 : x1 < x2) : x1 + (1 : Nat) = x2 := by omega
theorem omq362 (x1 : Nat) (x2 : Nat) (h1 : x1 ≤ (2 : Nat)) (h2 : x2 ≤ (3 : Nat)) (h3 : (0 : Nat) < x1) : (0 : Nat) < x2 + x1 := by omega
theorem omq363 (x1 : Nat) (x2 : Nat) (h1 : x1 < x2) : (10 : Int) ≤ (↑((10 : Nat) + x1) : Int) ∧ (↑((10 : Nat) + x1) : Int) < (10 : Int) + (↑x2 : Int) := by omega
theorem omq364 (x1 : Nat)  : ((↑((10 : Nat) + x1) : Int) - (10 : Int)).toNat = x1 := by omega
theorem omq365 (x1 : Nat) (x2 : Nat) (h1 : x1 + x2 = (1 : Nat)) (h2 : (0 : Nat) = x1 + x2) : False := by omega
theorem omq366 (x1 : Nat) (x2 : Nat) (x3 : Nat) (h1 : x1 + x2 = (1 : Nat)) (h2 : x3 + (1 : Nat) + (1 : Nat) = x1 + x2) : False := by omega
theorem omq367 (x1 : Nat) (x2 : Nat) (h1 : x1 ≤ (0 : Nat)) (h2 : (1 : Nat) ≤ x2) (h3 : x1 = x2) : False := by omega
theorem omq368 (x1 : Nat) (h1 : (0 : Nat) < x1) : (20 : Nat) < x1 - (1 : Nat) + (1 : Nat) ↔ (20 : Nat) < x1 := by omega
theorem omq369 (x1 : Nat) (h1 : (20 : Nat) < x1) (h2 : x1 ≤ (20 : Nat)) : False := by omega
theorem omq370 (x1 : Nat) (h1 : x1 ≤ (20 : Nat)) : (0 : Nat) + x1 ≤ (20 : Nat) := by omega
theorem omq371 (x1 : Nat) (h1 : x1 ≤ (10000 : Nat)) : x1 + (0 : Nat) ≤ (10000 : Nat) := by omega
theorem omq372 (x1 : Nat) (h1 : x1 ≤ (20 : Nat)) : x1 + (40 : Nat) + (1 : Nat) ≤ (64 : Nat) := by omega
theorem omq373 (x1 : Nat) (h1 : x1 ≤ (20 : Nat)) : (3 : Nat) * x1 + (160 : Nat) + (3 : Nat) ≤ (230 : Nat) := by omega
theorem omq374 (x1 : Nat) (x2 : Nat) (x3 : Nat) (h1 : x1 = x2) (h2 : x3 = x2) : x1 = x3 := by omega
theorem omq375 (x1 : Nat) (x2 : Nat) (x3 : Nat) (x4 : Nat) (h1 : x1 = x2) (h2 : x3 = x2) (h3 : x4 < x1) : x4 < x2 := by omega
theorem omq376 (x1 : Nat) (x2 : Nat) (h1 : ¬(↑(63 : Nat) : Int) < (↑x1 : Int)) (h2 : x2 = x1) : x1 ≤ (63 : Nat) := by omega
theorem omq377 (x1 : Nat) (x2 : Nat) (h1 : x1 + (600 : Nat) < (9800 : Nat)) (h2 : x2 = (9900 : Nat)) : x1 + (1 : Nat) < x2 := by omega
theorem omq378 (x1 : Nat) (x2 : Nat) (h1 : x1 + (600 : Nat) < (9800 : Nat)) (h2 : x2 = (9900 : Nat)) : x1 + (1 : Nat) + (1 : Nat) < x2 := by omega
theorem omq379 (x1 : Nat) (x2 : Nat) (h1 : (0 : Nat) < x1) (h2 : x1 ≤ (23 : Nat)) (h3 : x2 = x1) : (20 : Int) < (↑x1 : Int) ↔ (20 : Nat) < x1 := by omega
theorem omq380 (x1 : Nat)  : ¬(20 : Nat) < x1 ↔ x1 ≤ (20 : Nat) := by omega
theorem omq381 (x1 : Nat) (x2 : Nat) (h1 : (0 : Nat) < x1) (h2 : x1 ≤ (23 : Nat)) (h3 : x2 = x1) : x1 ≤ (100 : Nat) := by omega
theorem omq382 (x1 : Nat) (h1 : x1 ≤ (2 : Nat)) : x1 < (1000 : Nat) := by omega
theorem omq383 (x1 : Nat) (h1 : (150 : Int) < (↑x1 : Int)) : (↑x1 : Int) ≤ (10000 : Int) ↔ (150 : Nat) < x1 ∧ x1 ≤ (10000 : Nat) := by omega
theorem omq384 (x1 : Nat) (h1 : ¬(150 : Int) < (↑x1 : Int)) : (150 : Nat) < x1 → (10000 : Nat) < x1 := by omega
theorem omq385 (x1 : Nat) (x2 : Nat) (h1 : x1 = x2) (h2 : (10000 : Int) < (↑x1 : Int)) (h3 : x2 ≤ (10000 : Nat)) : False := by omega
theorem omq386 (x1 : Nat)  : (0 : Nat) + x1 = x1 := by omega
theorem omq387 (x1 : Nat) (x2 : Nat) (h1 : x1 = x2) (h2 : ¬(10000 : Int) < (↑x1 : Int)) : x2 ≤ (10000 : Nat) := by omega
theorem omq388 (x1 : Nat) (x2 : Nat) (h1 : (0 : Nat) < x1) (h2 : x1 ≤ (23 : Nat)) (h3 : x2 = x1) (h4 : x1 ≤ (20 : Nat)) : x1 + (10 : Nat) ≤ (100 : Nat) := by omega
theorem omq389 (x1 : Nat) (x2 : Nat) (h1 : (0 : Nat) < x1) (h2 : x1 ≤ (23 : Nat)) (h3 : x2 = x1) (h4 : x1 ≤ (20 : Nat)) : (3 : Nat) * x1 + (60 : Nat) ≤ (600 : Nat) := by omega
end Mine

/-! QBase -/
namespace Mine
theorem warm : (PySem.Challenge.rw_qd0126_01.Holds → (wr.heap_1 = wr.heap_1) → True) := by
  k_fill
  intro _ _; trivial

/-- the written part and the top's names stand in the heap -/
structure Wd (w : World) (h : Heap) : Prop where
  K : (wr.heap_1 w.params).In h
  T : ∃ p loose mg mb, TopRead p loose mg mb h
theorem Wd.keeps {w : World} {h h' : Heap} (W : Wd w h) (k : h.StaysIn h') : Wd w h' :=
  ⟨W.K.keeps k, (by obtain ⟨p, l, a, b, T⟩ := W.T; exact ⟨p, l, a, b, T.keeps k⟩)⟩
theorem Wd.nolimit {w : World} {h : Heap} (W : Wd w h) : h.NoLimit := (by obtain ⟨_, _, _, _, T⟩ := W.T; exact T.nolimit)
theorem stays_trans {a b c : Heap} (x : a.StaysIn b) (y : b.StaysIn c) : a.StaysIn c := fun q o e => y q o (x q o e)
theorem stays_refl {a : Heap} : a.StaysIn a := fun _ _ e => e
theorem stays_push {h : Heap} (o : Obj) : h.StaysIn (h.push o) := fun b x e => Heap.get?_push_of_some _ e

noncomputable def kv (w : World) (name : Str) (t : Tok) (v : Value) : DictEntry := ⟨PyData.keyHash w.params name, .str name t, v⟩

/-- where a body stands: the frozen part, the frame, the cells, the names, the cells' values, the ledger, the heap -/
structure St (w : World) (h₀ : Heap) (L : Addr) (cl : List (Str × Addr)) (l : List (Str × Value)) (lc : List (Str × Option Value)) (news : List (Addr × Obj)) (h : Heap) : Prop where
  fr : ∃ g m, Fr g L h m ∧ g.StaysIn h₀ ∧ Wd w g ∧ ∀ x v, l.lookup x = some v → m x = some v
  fz : h₀.StaysIn h
  lz : h₀.get? L = none
  nw : ∀ p ∈ news, h.get? p.1 = some p.2 ∧ p.1 ≠ L ∧ h₀.get? p.1 = none
  ce : ∀ x v, lc.lookup x = some v → ∃ c o, cl.lookup x = some c ∧ h.get? c = some o ∧ o.data = .cell v ∧ c ≠ L ∧ h₀.get? c = none
  nd : (news.map (·.1)).Nodup

/-- fewer names -/
noncomputable def Sub (l : List (Str × Value)) : List (Str × Value) → Prop
  | [] => True
  | (x, v) :: r => l.lookup x = some v ∧ Sub l r
theorem Sub.look {l : List (Str × Value)} : ∀ {l' : List (Str × Value)}, Sub l l' → ∀ {x v}, l'.lookup x = some v → l.lookup x = some v
  | [], _, _, _, e => nomatch e
  | (y, u) :: r, ⟨h1, h2⟩, x, v, e => by
    rw [List.lookup_cons] at e
    cases q : x == y with
    | true => rw [q] at e; cases e; rw [beq_iff_eq.mp q]; exact h1
    | false => rw [q] at e; exact Sub.look h2 e

section
variable {w : World} {h₀ h h' : Heap} {L : Addr} {cl : List (Str × Addr)} {l l' : List (Str × Value)} {lc : List (Str × Option Value)} {news news' : List (Addr × Obj)}
theorem St.wd (S : St w h₀ L cl l lc news h) : Wd w h₀ := (by obtain ⟨_, _, _, g, W, _⟩ := S.fr; exact W.keeps g)
theorem St.out (S : St w h₀ L cl l lc news h) : h₀.StaysIn h := S.fz
theorem St.wdh (S : St w h₀ L cl l lc news h) : Wd w h := S.wd.keeps S.fz
theorem St.base {a : Addr} {o : Obj} (S : St w h₀ L cl l lc news h) (e : h₀.get? a = some o) : h.get? a = some o := S.fz _ _ e
theorem St.new {a : Addr} {o : Obj} (S : St w h₀ L cl l lc news h) (e : (a, o) ∈ news) : h.get? a = some o := (S.nw _ e).1
theorem St.kin (S : St w h₀ L cl l lc news h) : (wr.heap_1 w.params).In h := S.wdh.K
theorem St.here (S : St w h₀ L cl l lc news h) : ∃ o es n, h.get? L = some o ∧ o.data = .dict es n := (by obtain ⟨_, _, F, _⟩ := S.fr; exact (by obtain ⟨o, es, n, a, b, _⟩ := F.ns; exact ⟨o, es, n, a, b⟩))
/-- all that the state speaks of stands -/
theorem St.move (S : St w h₀ L cl l lc news h) (k0 : h₀.StaysIn h') (kL : ∀ o, h.get? L = some o → h'.get? L = some o) (kn : ∀ p ∈ news, h.get? p.1 = some p.2 → h'.get? p.1 = some p.2)
    (kc : ∀ c o v, h.get? c = some o → o.data = .cell v → h'.get? c = some o) : St w h₀ L cl l lc news h' := by
  obtain ⟨⟨g, m, F, G, W, hm⟩, Z, LZ, N, C, D⟩ := S
  refine ⟨⟨g, m, ⟨F.ns.at' kL, stays_trans G k0, F.above⟩, G, W, hm⟩, k0, LZ, fun p hp => ⟨kn p hp (N p hp).1, (N p hp).2⟩, fun x v e => ?_, D⟩
  obtain ⟨c, o, a1, a2, a3, a4⟩ := C x v e
  exact ⟨c, o, a1, kc c o v a2 a3, a3, a4⟩
theorem St.keeps (S : St w h₀ L cl l lc news h) (k : h.StaysIn h') : St w h₀ L cl l lc news h' :=
  S.move (stays_trans S.fz k) (fun o e => k _ _ e) (fun p hp e => k _ _ e) fun c o v e _ => k _ _ e
theorem St.drop (S : St w h₀ L cl l lc news h) (hs : news'.Sublist news) : St w h₀ L cl l lc news' h :=
  ⟨S.fr, S.fz, S.lz, fun p hp => S.nw p (hs.mem hp), S.ce, (hs.map _).nodup S.nd⟩
theorem St.names (S : St w h₀ L cl l lc news h) (hs : Sub l l') : St w h₀ L cl l' lc news h :=
  ⟨(by obtain ⟨g, m, F, G, W, hm⟩ := S.fr; exact ⟨g, m, F, G, W, fun x v e => hm x v (hs.look e)⟩), S.fz, S.lz, S.nw, S.ce, S.nd⟩
theorem St.fresh {a : Addr} {o : Obj} (S : St w h₀ L cl l lc news h) (h1 : h.get? a = none) (k : h.StaysIn h') (h2 : h'.get? a = some o) : St w h₀ L cl l lc ((a, o) :: news) h' := by
  have S' := S.keeps k
  have nn : a ∉ news.map (·.1) := fun q => by
    obtain ⟨p, hp, e⟩ := List.mem_map.mp q
    have := (S.nw p hp).1
    rw [e, h1] at this; cases this
  refine ⟨S'.fr, S'.fz, S'.lz, fun p hp => ?_, S'.ce, List.nodup_cons.mpr ⟨nn, S.nd⟩⟩
  rcases List.mem_cons.mp hp with rfl | hp
  · refine ⟨h2, fun q => ?_, ?_⟩
    · obtain ⟨oL, _, _, hL, _⟩ := S.here
      rw [← q, h1] at hL; cases hL
    · cases q : h₀.get? a with
      | none => rfl
      | some o' => have := S.base q; rw [h1] at this; cases this
  · exact S'.nw p hp
theorem get_size (h : Heap) : h.get? h.objs.size = none := Heap.get?_none_of_le (Nat.le_refl _)
theorem St.push (S : St w h₀ L cl l lc news h) (o : Obj) (hf : o.isFreed = false) : St w h₀ L cl l lc ((h.objs.size, o) :: news) (h.push o) :=
  S.fresh (get_size h) (stays_push o) (Heap.get?_push_size _ hf)
theorem St.set {x : Str} {v : Value} {m : Str → Option Value} {g : Heap} (S : St w h₀ L cl l lc news h) (F : Fr g L h m) (G : g.StaysIn h₀) (W : Wd w g) (hm : ∀ x v, l.lookup x = some v → m x = some v)
    (hn : h'.Ns L fun y => if y = x then some v else m y) (hs : Heap.SameBut L h h') : St w h₀ L cl ((x, v) :: l) lc news h' := by
  refine ⟨⟨g, _, F.set hn hs, G, W, fun y u e => ?_⟩, fun b o e => (hs.2 b fun q => ?_).trans (S.fz b o e), S.lz, fun p hp => ⟨(hs.2 _ (S.nw p hp).2.1).trans (S.nw p hp).1, (S.nw p hp).2⟩, fun y u e => ?_, S.nd⟩
  · rw [List.lookup_cons] at e
    cases q : y == x with
    | true => rw [q] at e; cases e; rw [if_pos (beq_iff_eq.mp q)]
    | false => rw [q] at e; rw [if_neg (by simpa using q)]; exact hm y u e
  · have := S.lz; rw [← q, e] at this; cases this
  · obtain ⟨c, o, a1, a2, a3, a4, a5⟩ := S.ce y u e
    exact ⟨c, o, a1, (hs.2 c a4).trans a2, a3, a4, a5⟩
/-- one object of the ledger turned -/
theorem St.upd {pre post : List (Addr × Obj)} {d : Addr} {o o' : Obj} (S : St w h₀ L cl l lc (pre ++ (d, o) :: post) h) (hs : Heap.SameBut d h h') (h2 : h'.get? d = some o')
    (hd : ∀ v, o.data ≠ .cell v) : St w h₀ L cl l lc (pre ++ (d, o') :: post) h' := by
  have D := S.nw (d, o) (by simp)
  have nd' := S.nd
  rw [List.map_append, List.map_cons] at nd'
  have p1 : ∀ p ∈ pre, p.1 ≠ d := fun p hp q => (List.nodup_append.mp nd').2.2 p.1 (List.mem_map_of_mem hp) d (.head _) q
  have p2 : ∀ p ∈ post, p.1 ≠ d := fun p hp q => (List.nodup_cons.mp (List.nodup_append.mp nd').2.1).1 (q ▸ (List.mem_map_of_mem (f := (·.1)) hp : p.1 ∈ post.map (·.1)))
  have ne : ∀ b, h₀.get? b ≠ none → b ≠ d := fun b hb q => hb (by rw [q]; exact D.2.2)
  obtain ⟨⟨g, m, F, G, W, hm⟩, Z, LZ, N, C, ND⟩ := S
  have k0 : h₀.StaysIn h' := fun b x e => (hs.2 b (ne b (by rw [e]; exact fun q => nomatch q))).trans (Z b x e)
  refine ⟨⟨g, m, ⟨F.ns.at' fun x e => (hs.2 L (Ne.symm D.2.1)).trans e, stays_trans G k0, F.above⟩, G, W, hm⟩, k0, LZ, fun p hp => ?_, fun x v e => ?_, by rw [List.map_append, List.map_cons] at ND ⊢; exact ND⟩
  · rcases List.mem_append.mp hp with q | q
    · have P := N p (List.mem_append_left _ q); exact ⟨(hs.2 _ (p1 p q)).trans P.1, P.2⟩
    · rcases List.mem_cons.mp q with rfl | q
      · exact ⟨h2, D.2⟩
      · have P := N p (List.mem_append_right _ (.tail _ q)); exact ⟨(hs.2 _ (p2 p q)).trans P.1, P.2⟩
  · obtain ⟨c, x', a1, a2, a3, a4, a5⟩ := C x v e
    refine ⟨c, x', a1, (hs.2 c fun z => ?_).trans a2, a3, a4, a5⟩
    have : h.get? c = some o := by rw [z]; exact D.1
    rw [a2] at this; cases this; exact hd _ a3
/-- the head of the ledger turned (an iterator) -/
theorem St.head {I : Addr} {o o' : Obj} (S : St w h₀ L cl l lc ((I, o) :: news) h) (ho : ∀ v, o.data ≠ .cell v) (k : ∀ b x, b ∉ [I] → h.get? b = some x → h'.get? b = some x) (hI : h'.get? I = some o') :
    St w h₀ L cl l lc ((I, o') :: news) h' := by
  have k' : ∀ b x, b ≠ I → h.get? b = some x → h'.get? b = some x := fun b x e => k b x (by simpa using e)
  have hi := S.nw (I, o) (.head _)
  obtain ⟨⟨g, m, F, G, W, hm⟩, Z, LZ, N, C, D⟩ := S
  have k0 : h₀.StaysIn h' := fun b x e => k' b x (fun q => by have := hi.2.2; rw [← q, e] at this; cases this) (Z b x e)
  refine ⟨⟨g, m, ⟨F.ns.at' fun x e => k' L x (Ne.symm hi.2.1) e, stays_trans G k0, F.above⟩, G, W, hm⟩, k0, LZ, fun p hp => ?_, fun x v e => ?_, D⟩
  · rcases List.mem_cons.mp hp with rfl | hp
    · exact ⟨hI, hi.2⟩
    · have hq := N p (.tail _ hp)
      exact ⟨k' _ _ (fun q => (List.nodup_cons.mp D).1 (q ▸ (List.mem_map_of_mem (f := (·.1)) hp : p.1 ∈ news.map (·.1)))) hq.1, hq.2⟩
  · obtain ⟨c, x', a1, a2, a3, a4, a5⟩ := C x v e
    refine ⟨c, x', a1, k' _ _ (fun q => ?_) a2, a3, a4, a5⟩
    have h1 : h.get? c = some o := by rw [q]; exact hi.1
    rw [a2] at h1; cases h1; exact ho _ a3
/-- the head of the ledger let go, whatever becomes of it -/
theorem St.but {I : Addr} {o : Obj} (S : St w h₀ L cl l lc ((I, o) :: news) h) (ho : ∀ v, o.data ≠ .cell v) (k : ∀ b x, b ∉ [I] → h.get? b = some x → h'.get? b = some x) : St w h₀ L cl l lc news h' := by
  have k' : ∀ b x, b ≠ I → h.get? b = some x → h'.get? b = some x := fun b x e => k b x (by simpa using e)
  have hi := S.nw (I, o) (.head _)
  obtain ⟨⟨g, m, F, G, W, hm⟩, Z, LZ, N, C, D⟩ := S
  have k0 : h₀.StaysIn h' := fun b x e => k' b x (fun q => by have := hi.2.2; rw [← q, e] at this; cases this) (Z b x e)
  refine ⟨⟨g, m, ⟨F.ns.at' fun x e => k' L x (Ne.symm hi.2.1) e, stays_trans G k0, F.above⟩, G, W, hm⟩, k0, LZ, fun p hp => ?_, fun x v e => ?_, (List.nodup_cons.mp D).2⟩
  · have hq := N p (.tail _ hp)
    exact ⟨k' _ _ (fun q => (List.nodup_cons.mp D).1 (q ▸ (List.mem_map_of_mem (f := (·.1)) hp : p.1 ∈ news.map (·.1)))) hq.1, hq.2⟩
  · obtain ⟨c, x', a1, a2, a3, a4, a5⟩ := C x v e
    refine ⟨c, x', a1, k' _ _ (fun q => ?_) a2, a3, a4, a5⟩
    have h1 : h.get? c = some o := by rw [q]; exact hi.1
    rw [a2] at h1; cases h1; exact ho _ a3
theorem St.tail {p : Addr × Obj} (S : St w h₀ L cl l lc (p :: news) h) : St w h₀ L cl l lc news h := S.drop (List.sublist_cons_self _ _)
theorem St.swap {p q : Addr × Obj} (S : St w h₀ L cl l lc (p :: q :: news) h) : St w h₀ L cl l lc (q :: p :: news) h :=
  ⟨S.fr, S.fz, S.lz, fun x hx => S.nw x (by rcases List.mem_cons.mp hx with rfl | hx; exact .tail _ (.head _); rcases List.mem_cons.mp hx with rfl | hx; exact .head _; exact .tail _ (.tail _ hx)), S.ce,
    ((List.Perm.swap q p news).map (·.1)).nodup S.nd⟩
theorem St.snd {p q : Addr × Obj} (S : St w h₀ L cl l lc (p :: q :: news) h) : St w h₀ L cl l lc (p :: news) h := S.drop ((List.sublist_cons_self _ _).cons_cons _)
theorem St.inst {x C dx : Addr} {od : Obj} {sl : Array (Option Value)} (S : St w h₀ L cl l lc news h) (h1 : h₀.get? x = some ⟨.ref C, some dx, .plain, sl⟩) (h2 : h₀.get? dx = some od) :
    PySem.W.InstAt h x ⟨.ref C, some dx, .plain, sl⟩ C (some od) := ⟨S.base h1, rfl, rfl, S.base h2⟩
theorem St.instN {x C dx : Addr} {od : Obj} {sl : Array (Option Value)} (S : St w h₀ L cl l lc news h) (h1 : (x, (⟨.ref C, some dx, .plain, sl⟩ : Obj)) ∈ news) (h2 : (dx, od) ∈ news) :
    PySem.W.InstAt h x ⟨.ref C, some dx, .plain, sl⟩ C (some od) := ⟨S.new h1, rfl, rfl, S.new h2⟩

/-- what may still turn: the frame, the cells, the ledger -/
noncomputable def loose (L : Addr) (cl : List (Str × Addr)) (lc : List (Str × Option Value)) (news : List (Addr × Obj)) : List Addr := L :: (lc.filterMap (fun x => cl.lookup x.1)) ++ news.map (·.1)
theorem mem_lc : ∀ {lc : List (Str × Option Value)} {y : Str}, (∃ u, (y, u) ∈ lc) → ∃ v, lc.lookup y = some v
  | (x, v) :: r, y, ⟨u, hm⟩ => by
    rw [List.lookup_cons]
    cases q : y == x with
    | true => exact ⟨v, rfl⟩
    | false =>
      rcases List.mem_cons.mp hm with e | hm
      · cases e; rw [beq_self_eq_true] at q; cases q
      · exact mem_lc ⟨u, hm⟩
theorem St.not_loose (S : St w h₀ L cl l lc news h) {b : Addr} {o : Obj} (e : h₀.get? b = some o) : b ∉ loose L cl lc news := by
  intro hm
  rcases List.mem_append.mp hm with hm | hm
  · rcases List.mem_cons.mp hm with rfl | hm
    · have := S.lz; rw [e] at this; cases this
    · obtain ⟨⟨y, u⟩, hy, hc⟩ := List.mem_filterMap.mp hm
      obtain ⟨v, hv⟩ := mem_lc ⟨u, hy⟩
      obtain ⟨c, o', a1, _, _, _, a5⟩ := S.ce y v hv
      rw [a1] at hc; cases hc
      rw [e] at a5; cases a5
  · obtain ⟨p, hp, rfl⟩ := List.mem_map.mp hm
    have := (S.nw p hp).2.2; rw [e] at this; cases this
/-- all that stands now, but what may still turn, is frozen -/
theorem St.freeze (S : St w h₀ L cl l lc news h) : St w (hideAll h (loose L cl lc news)) L cl l lc news h ∧ h₀.StaysIn (hideAll h (loose L cl lc news)) := by
  have k : h₀.StaysIn (hideAll h (loose L cl lc news)) := fun b o e => hideAll_get _ (S.fz b o e) (S.not_loose e)
  refine ⟨⟨(by obtain ⟨g, m, F, G, W, hm⟩ := S.fr; exact ⟨g, m, F, stays_trans G k, W, hm⟩), fun b o e => of_hideAll _ e, hideAll_none _ (.head _), fun p hp => ⟨(S.nw p hp).1, (S.nw p hp).2.1, hideAll_none _ (List.mem_append_right _ (List.mem_map_of_mem hp))⟩, fun x v e => ?_, S.nd⟩, k⟩
  obtain ⟨c, o, a1, a2, a3, a4, a5⟩ := S.ce x v e
  refine ⟨c, o, a1, a2, a3, a4, hideAll_none _ (List.mem_append_left _ (.tail _ (List.mem_filterMap.mpr ?_)))⟩
  have : ∃ u, (x, u) ∈ lc := by
    clear S a1 a2 a3 k
    induction lc with
    | nil => cases e
    | cons p r ih =>
      rw [List.lookup_cons] at e
      cases q : x == p.1 with
      | true => exact ⟨p.2, by rw [beq_iff_eq.mp q]; exact .head _⟩
      | false => rw [q] at e; obtain ⟨u, hu⟩ := ih e; exact ⟨u, .tail _ hu⟩
  obtain ⟨u, hu⟩ := this
  exact ⟨(x, u), hu, a1⟩
theorem St.frz (S : St w h₀ L cl l lc news h) {b : Addr} {o : Obj} (e : h.get? b = some o) (h1 : b ≠ L) (h2 : b ∉ news.map (·.1)) (h3 : ∀ v, o.data ≠ .cell v) : (hideAll h (loose L cl lc news)).get? b = some o := by
  refine hideAll_get _ e fun hm => ?_
  rcases List.mem_append.mp hm with hm | hm
  · rcases List.mem_cons.mp hm with rfl | hm
    · exact h1 rfl
    · obtain ⟨⟨y, u⟩, hy, hc⟩ := List.mem_filterMap.mp hm
      obtain ⟨v, hv⟩ := mem_lc ⟨u, hy⟩
      obtain ⟨c, o', a1, a2, a3, _⟩ := S.ce y v hv
      rw [a1] at hc; cases hc
      rw [e] at a2; cases a2
      exact h3 _ a3
  · exact h2 hm
/-- all of a heap but one place, told as the library tells a ledger over the empty heap -/
noncomputable def allBut (h : Heap) (L : Addr) : List (Addr × Obj) := (List.range h.objs.size).filterMap fun b => if b = L then none else (h.get? b).map (Prod.mk b)
theorem allBut_in {b : Addr} {o : Obj} (ne : b ≠ L) (e : h.get? b = some o) : (b, o) ∈ allBut h L :=
  List.mem_filterMap.mpr ⟨b, List.mem_range.mpr (Heap.lt_size e), by rw [if_neg ne, e]; rfl⟩
theorem allBut_of {p : Addr × Obj} (hp : p ∈ allBut h L) : p.1 ≠ L ∧ h.get? p.1 = some p.2 := by
  obtain ⟨b, _, e⟩ := List.mem_filterMap.mp hp
  split at e
  · cases e
  · rename_i ne
    obtain ⟨o, ho, rfl⟩ := Option.map_eq_some_iff.mp e
    exact ⟨ne, ho⟩
theorem get_empty (b : Addr) : (default : Heap).get? b = none := rfl
/-- what the library's rules ask of a frame and a ledger, and what they leave, in words of St -/
theorem St.lib (S : St w h₀ L cl l lc news h) : ∃ m, Fr default L h m ∧ News default L h (allBut h L) ∧ ∀ h', Fr default L h' m → News default L h' (allBut h L) → St w h₀ L cl l lc news h' := by
  obtain ⟨⟨g, m, F, G, W, hm⟩, Z, LZ, N, C, D⟩ := S
  refine ⟨m, ⟨F.ns, fun b o e => (nomatch (get_empty b).symm.trans e), Nat.zero_le _⟩, fun p hp => ⟨(allBut_of hp).2, (allBut_of hp).1, get_empty _⟩, fun h' F' N' => ?_⟩
  have kept : ∀ b o, b ≠ L → h.get? b = some o → h'.get? b = some o := fun b o ne e => (N' _ (allBut_in ne e)).1
  have k0 : h₀.StaysIn h' := fun b o e => kept b o (fun q => by rw [q, LZ] at e; cases e) (Z b o e)
  exact ⟨⟨g, m, ⟨F'.ns, stays_trans G k0, F.above⟩, G, W, hm⟩, k0, LZ, fun p hp => ⟨kept _ _ (N p hp).2.1 (N p hp).1, (N p hp).2⟩,
    fun x v e => (by obtain ⟨c, o, a1, a2, a3, a4, a5⟩ := C x v e; exact ⟨c, o, a1, kept c o a4 a2, a3, a4, a5⟩), D⟩
/-- the same, with an object made anew -/
theorem St.libNew {a : Addr} {o : Obj} {m : Str → Option Value} (S : St w h₀ L cl l lc news h) (back : ∀ h', Fr default L h' m → News default L h' (allBut h L) → St w h₀ L cl l lc news h') (F' : Fr default L h' m)
    (N' : News default L h' ((a, o) :: allBut h L)) (lt : ∀ p ∈ allBut h L, p.1 < a) : St w h₀ L cl l lc ((a, o) :: news) h' := by
  have S' := back h' F' fun p hp => N' p (.tail _ hp)
  have here := N' _ (.head _)
  have free : ∀ o', h.get? a ≠ some o' := fun o' e => Nat.lt_irrefl _ (lt _ (allBut_in here.2.1 e))
  refine ⟨S'.fr, S'.fz, S'.lz, fun p hp => ?_, S'.ce, List.nodup_cons.mpr ⟨fun hm => ?_, S'.nd⟩⟩
  · rcases List.mem_cons.mp hp with rfl | hp
    · refine ⟨here.1, here.2.1, ?_⟩
      cases q : h₀.get? a with
      | none => rfl
      | some o' => exact absurd (S.fz _ _ q) (free o')
    · exact S'.nw p hp
  · obtain ⟨p, hp, rfl⟩ := List.mem_map.mp hm
    exact free _ (S.nw p hp).1
end

/-- an env of the text's own -/
structure Env0 (env : Env) (L : Addr) : Prop where
  lo : env.locals = L
  gl : env.globals = mainGlobals
  bi : env.builtins = builtinsNs
  fn : env.scope.kind = .function

section
variable {prog : Program} {w : World} {A : Around} {E : Value → Shared → Prop} {s : Shared} {h₀ : Heap} {L a : Addr} {env : Env} {cl : List (Str × Addr)} {l : List (Str × Value)} {lc : List (Str × Option Value)} {news : List (Addr × Obj)}

theorem rG {x : Str} {pos : Pos} {v : Value} {Q : Value → Shared → Prop} (S : St w h₀ L cl l lc news s.heap) (e : nsIn (wr.heap_1 w.params) mainGlobals x = some (some v)) (h : Q v s)
    (he : Env0 env L := by exact ⟨rfl, rfl, rfl, rfl⟩) (hx : env.kindOf x = some .globalImplicit := by rfl) (hd : (x == ("__debug__" : Str)) = false := by decide) :
    wpAny (model prog w) A (eval (.Name x pos) env) Q E s := by
  obtain ⟨_, _, _, _, T⟩ := S.wdh.T
  exact Name_function_global he.fn hx (loadGlobal_global (env := env) (he.gl ▸ T.g) (mg_of S.kin T.g e) h) hd
theorem rB {x : Str} {pos : Pos} {v : Value} {Q : Value → Shared → Prop} (S : St w h₀ L cl l lc news s.heap) (e : nsIn (wr.heap_1 w.params) mainGlobals x = some none) (hv : bootBuiltins x = some v) (h : Q v s)
    (he : Env0 env L := by exact ⟨rfl, rfl, rfl, rfl⟩) (hn : x ≠ "__name__" := by decide) (hx : env.kindOf x = some .globalImplicit := by rfl) (hd : (x == ("__debug__" : Str)) = false := by decide) :
    wpAny (model prog w) A (eval (.Name x pos) env) Q E s := by
  obtain ⟨_, _, _, _, T⟩ := S.wdh.T
  exact Name_function_global he.fn hx (loadGlobal_builtin (env := env) (he.gl ▸ T.g) (mg_none_of S.kin T.g e) (he.bi ▸ T.b) ((T.builtins x hn).trans hv) h) hd
theorem rL {x : Str} {pos : Pos} {v : Value} {Q : Value → Shared → Prop} (S : St w h₀ L cl l lc news s.heap) (hv : l.lookup x = some v) (h : Q v s)
    (he : Env0 env L := by exact ⟨rfl, rfl, rfl, rfl⟩) (hx : env.kindOf x = some .local := by rfl) (hd : (x == ("__debug__" : Str)) = false := by decide) :
    wpAny (model prog w) A (eval (.Name x pos) env) Q E s := by
  obtain ⟨g, m, F, _, _, hm⟩ := S.fr
  exact wpAny_Name (wpAny_loadName_local he.fn hx (he.lo ▸ F.ns) (hm _ _ hv) h) hd
theorem rC {x : Str} {pos : Pos} {v : Value} {Q : Value → Shared → Prop} (S : St w h₀ L cl l lc news s.heap) (hv : lc.lookup x = some (some v)) (h : Q v s)
    (he : Env0 env L := by exact ⟨rfl, rfl, rfl, rfl⟩) (hx : env.kindOf x = some .cell := by rfl) (hc : env.cells.lookup x = cl.lookup x := by rfl) (hd : (x == ("__debug__" : Str)) = false := by decide) :
    wpAny (model prog w) A (eval (.Name x pos) env) Q E s := by
  obtain ⟨c, o, a1, a2, a3, _⟩ := S.ce _ _ hv
  exact wpAny_Name (wpAny_loadName_cell he.fn hx (hc.trans a1) ⟨o, a2, a3⟩ h) hd
theorem sL {x : Str} {v : Value} {Q : Unit → Shared → Prop} (S : St w h₀ L cl l lc news s.heap)
    (h : ∀ h', St w h₀ L cl ((x, v) :: l) lc news h' → Q () { s with heap := h', toks := s.toks + 1 })
    (he : Env0 env L := by exact ⟨rfl, rfl, rfl, rfl⟩) (hx : env.kindOf x = some .local := by rfl) : wpAny (model prog w) A (storeName env x v) Q E s := by
  obtain ⟨g, m, F, G, W, hm⟩ := S.fr
  refine wpAny_storeName_local hx (he.lo ▸ F.ns) (fun h' hn hs => ?_) (by rw [he.fn]; rfl)
  rw [he.lo] at hn hs
  exact h h' (S.set F G W hm hn hs)
/-- a store into a cell's name -/
theorem sC {x : Str} {v : Value} {v₀ : Option Value} {Q : Unit → Shared → Prop} (S : St w h₀ L cl l lc news s.heap) (hv : lc.lookup x = some v₀) (hap : ∀ y, y ≠ x → cl.lookup y ≠ cl.lookup x ∨ cl.lookup y = none)
    (hnn : ∀ p ∈ news, ∀ u, p.2.data ≠ .cell u)
    (h : ∀ h', St w h₀ L cl l ((x, some v) :: lc) news h' → Q () { s with heap := h' })
    (he : Env0 env L := by exact ⟨rfl, rfl, rfl, rfl⟩) (hx : env.kindOf x = some .cell := by rfl) (hc : env.cells.lookup x = cl.lookup x := by rfl) : wpAny (model prog w) A (storeName env x v) Q E s := by
  obtain ⟨c, o, a1, a2, a3, a4, a5⟩ := S.ce _ _ hv
  refine wpAny_storeName_cell he.fn hx (hc.trans a1) ⟨o, a2, a3⟩ fun h' hc hs => h h' ?_
  obtain ⟨o', b2, b3⟩ := hc
  obtain ⟨⟨g, m, F, G, W, hm⟩, Z, LZ, N, C, D⟩ := S
  have k0 : h₀.StaysIn h' := fun b z e => (hs.2 b (fun q => by rw [q, a5] at e; cases e)).trans (Z b z e)
  refine ⟨⟨g, m, ⟨F.ns.at' fun z e => (hs.2 L (Ne.symm a4)).trans e, stays_trans G k0, F.above⟩, G, W, hm⟩, k0, LZ, fun p hp => ⟨(hs.2 _ fun q => ?_).trans (N p hp).1, (N p hp).2⟩, fun y u e => ?_, D⟩
  · have := (N p hp).1; rw [q, a2] at this; cases this; exact hnn p hp _ a3
  · rw [List.lookup_cons] at e
    cases q : y == x with
    | true => rw [q] at e; cases e; rw [beq_iff_eq.mp q]; exact ⟨c, o', a1, b2, b3, a4, a5⟩
    | false =>
      rw [q] at e
      obtain ⟨d, z, d1, d2, d3, d4, d5⟩ := C y u e
      refine ⟨d, z, d1, (hs.2 d fun q2 => ?_).trans d2, d3, d4, d5⟩
      rcases hap y (by simpa using q) with h1 | h1
      · exact h1 (by rw [d1, a1, q2])
      · rw [d1] at h1; cases h1

/-- a call of one of the text's defs (no cells): the body from a new frame; the ledger's objects are the call's to turn, all else stands -/
theorem enter {Q : Value → Shared → Prop} {f : Addr} {oc : Value} {od : Option Addr} {osl : Array (Option Value)} {name qual : Str} {params : Arguments} {body : List Stmt} {scope : Scope} {dV kV doc pm cdv ct : Value} {an : Option Addr} {args : List Value} {binds : List (Str × Value)}
    (hn : ∀ p ∈ news, s.heap.get? p.1 = some p.2) (hnd : (news.map (·.1)).Nodup)
    (W : Wd w (hideAll s.heap (news.map (·.1)))) (ho : (wr.heap_1 w.params).lookup f = some ⟨oc, od, .func (fnOf name qual params body scope dV kV doc pm an cdv ct), osl⟩) (hcd : codeIn (wr.heap_1 w.params) cdv qual = true)
    (hroom : A.depth < recursionLimit) (hbind : BindsTo s (fnOf name qual params body scope dV kV doc pm an cdv ct) ⟨args, []⟩ binds)
    (hloc : ∀ y ∈ binds, scope.names.lookup y.1 = some .local)
    (h : ∀ h₁ tk, St w (hideAll s.heap (news.map (·.1))) s.heap.objs.size [] binds.reverse [] news h₁ → s.heap.StaysIn h₁ →
      wpAny (model prog w) (A.deeper (envX qual scope s.heap.objs.size f cdv [])) (execs body (envX qual scope s.heap.objs.size f cdv []))
        (fun fl s' => Q (match fl with | .ret v => v | _ => .none) s')
        (fun e s' => wpAny (model prog w) (A.deeper (envX qual scope s.heap.objs.size f cdv [])) (leaving (envX qual scope s.heap.objs.size f cdv []) e) (fun _ s'' => E e s'') E s')
        { s with heap := h₁, toks := tk })
    (hco : scope.isCoroutine = false) (hgen : scope.isGenerator = false) (hk : scope.kind = .function) (hcell : ∀ x ∈ scope.names, x.2 ≠ .cell) :
    wpAny (model prog w) A (call (.ref f) args) Q E s := by
  refine wpAny_call ?_
  have st : (hideAll s.heap (news.map (·.1))).StaysIn s.heap := fun b o e => of_hideAll _ e
  have W' := W.keeps st
  refine codeAny_call_def (fd := fnOf name qual params body scope dV kV doc pm an cdv ct) hroom (W'.K _ _ ho) rfl W'.nolimit (codeRec_of W'.K hcd) rfl hbind hcell hloc (fun h₁ hn₁ hk₁ => ?_) hco hgen hk
  have kk := stays_trans st hk₁
  have nL : (hideAll s.heap (news.map (·.1))).get? s.heap.objs.size = none := by rw [← hideAll_size (news.map (·.1)) s.heap]; exact get_size _
  exact h h₁ _ ⟨⟨_, _, ⟨hn₁, kk, Nat.le_of_eq (hideAll_size _ _)⟩, stays_refl, W, fun _ _ e => e⟩, kk, nL, fun p hp => ⟨hk₁ _ _ (hn p hp), Nat.ne_of_lt (Heap.lt_size (hn p hp)), hideAll_none _ (List.mem_map_of_mem hp)⟩, fun x v e => (nomatch e), hnd⟩ hk₁
theorem enter0 {Q : Value → Shared → Prop} {f : Addr} {oc : Value} {od : Option Addr} {osl : Array (Option Value)} {name qual : Str} {params : Arguments} {body : List Stmt} {scope : Scope} {dV kV doc pm cdv ct : Value} {an : Option Addr} {args : List Value} {binds : List (Str × Value)}
    (W : Wd w s.heap) (ho : (wr.heap_1 w.params).lookup f = some ⟨oc, od, .func (fnOf name qual params body scope dV kV doc pm an cdv ct), osl⟩) (hcd : codeIn (wr.heap_1 w.params) cdv qual = true)
    (hroom : A.depth < recursionLimit) (hbind : BindsTo s (fnOf name qual params body scope dV kV doc pm an cdv ct) ⟨args, []⟩ binds)
    (hloc : ∀ y ∈ binds, scope.names.lookup y.1 = some .local)
    (h : ∀ h₁ tk, St w s.heap s.heap.objs.size [] binds.reverse [] [] h₁ →
      wpAny (model prog w) (A.deeper (envX qual scope s.heap.objs.size f cdv [])) (execs body (envX qual scope s.heap.objs.size f cdv []))
        (fun fl s' => Q (match fl with | .ret v => v | _ => .none) s')
        (fun e s' => wpAny (model prog w) (A.deeper (envX qual scope s.heap.objs.size f cdv [])) (leaving (envX qual scope s.heap.objs.size f cdv []) e) (fun _ s'' => E e s'') E s')
        { s with heap := h₁, toks := tk })
    (hco : scope.isCoroutine = false) (hgen : scope.isGenerator = false) (hk : scope.kind = .function) (hcell : ∀ x ∈ scope.names, x.2 ≠ .cell) :
    wpAny (model prog w) A (call (.ref f) args) Q E s :=
  enter (news := []) (fun _ hp => nomatch hp) List.nodup_nil W ho hcd hroom hbind hloc (fun h₁ tk S _ => h h₁ tk S) hco hgen hk hcell

noncomputable def SubF (f : Str → Option Value) : List (Str × Value) → Prop
  | [] => True
  | (x, v) :: r => f x = some v ∧ SubF f r
theorem SubF.look {f : Str → Option Value} : ∀ {l : List (Str × Value)}, SubF f l → ∀ {x v}, l.lookup x = some v → f x = some v
  | [], _, _, _, e => nomatch e
  | (y, u) :: r, ⟨h1, h2⟩, x, v, e => by
    rw [List.lookup_cons] at e
    cases q : x == y with
    | true => rw [q] at e; cases e; rw [beq_iff_eq.mp q]; exact h1
    | false => rw [q] at e; exact SubF.look h2 e
noncomputable def SubC (cl : List (Str × Addr)) (f : Str → Option Value) : List (Str × Option Value) → Prop
  | [] => True
  | (x, v) :: r => ((∃ c, cl.lookup x = some c) ∧ f x = v) ∧ SubC cl f r
theorem SubC.look {cl : List (Str × Addr)} {f : Str → Option Value} : ∀ {l : List (Str × Option Value)}, SubC cl f l → ∀ {x v}, l.lookup x = some v → (∃ c, cl.lookup x = some c) ∧ f x = v
  | [], _, _, _, e => nomatch e
  | (y, u) :: r, ⟨h1, h2⟩, x, v, e => by
    rw [List.lookup_cons] at e
    cases q : x == y with
    | true => rw [q] at e; cases e; rw [beq_iff_eq.mp q]; exact h1
    | false => rw [q] at e; exact SubC.look h2 e
theorem cells_in {names : List (Str × NameKind)} : ∀ {n : Nat} {acc : List (Str × Addr)} {x : Str} {c : Addr}, (cellsFrom n names acc).lookup x = some c → (∃ y, (y, c) ∈ acc) ∨ n ≤ c := by
  induction names with
  | nil => intro n acc x c h; exact .inl ⟨x, mem_of_lookup h⟩
  | cons p r ih =>
    intro n acc x c h
    unfold cellsFrom at h
    split at h
    · rcases ih h with ⟨y, hy⟩ | hy
      · rcases List.mem_cons.mp hy with e | hy
        · cases e; exact .inr (Nat.le_refl _)
        · exact .inl ⟨y, hy⟩
      · exact .inr (by (first | exact omq1 _ _ hy | omega))
    · exact ih h
/-- a call of a def with cells -/
theorem enterC {Q : Value → Shared → Prop} {f : Addr} {oc : Value} {od : Option Addr} {osl : Array (Option Value)} {name qual : Str} {params : Arguments} {body : List Stmt} {scope : Scope} {dV kV doc pm cdv ct : Value} {an : Option Addr} {args : List Value} {binds : List (Str × Value)}
    (l : List (Str × Value)) (lc : List (Str × Option Value))
    (hn : ∀ p ∈ news, s.heap.get? p.1 = some p.2) (hnd : (news.map (·.1)).Nodup)
    (W : Wd w (hideAll s.heap (news.map (·.1)))) (ho : (wr.heap_1 w.params).lookup f = some ⟨oc, od, .func (fnOf name qual params body scope dV kV doc pm an cdv ct), osl⟩) (hcd : codeIn (wr.heap_1 w.params) cdv qual = true)
    (hroom : A.depth < recursionLimit) (hbind : bindArgs (fnOf name qual params body scope dV kV doc pm an cdv ct) ⟨args, []⟩ = pure binds)
    (hkind : (binds.all fun y => scope.names.lookup y.1 == some .local || scope.names.lookup y.1 == some .cell) = true)
    (hl : SubF (bindL (envOfC qual scope s.heap.objs.size f cdv).kindOf binds fun _ => none) l)
    (hc : SubC (cellsFrom (s.heap.objs.size + 1) scope.names []) (bindC (envOfC qual scope s.heap.objs.size f cdv).kindOf binds fun _ => none) lc)
    (h : ∀ h₁ tk, St w (hideAll s.heap (news.map (·.1))) s.heap.objs.size (cellsFrom (s.heap.objs.size + 1) scope.names []) l lc news h₁ → s.heap.StaysIn h₁ →
      wpAny (model prog w) (A.deeper (envOfC qual scope s.heap.objs.size f cdv)) (execs body (envOfC qual scope s.heap.objs.size f cdv))
        (fun fl s' => Q (match fl with | .ret v => v | _ => .none) s')
        (fun e s' => wpAny (model prog w) (A.deeper (envOfC qual scope s.heap.objs.size f cdv)) (leaving (envOfC qual scope s.heap.objs.size f cdv) e) (fun _ s'' => E e s'') E s')
        { s with heap := h₁, toks := tk })
    (hco : scope.isCoroutine = false) (hgen : scope.isGenerator = false) (hk : scope.kind = .function) :
    wpAny (model prog w) A (call (.ref f) args) Q E s := by
  refine wpAny_call ?_
  have st : (hideAll s.heap (news.map (·.1))).StaysIn s.heap := fun b o e => of_hideAll _ e
  have W' := W.keeps st
  refine codeAny_call_cells (fd := fnOf name qual params body scope dV kV doc pm an cdv ct) hroom (W'.K _ _ ho) rfl W'.nolimit (codeRec_of W'.K hcd) rfl hbind rfl (kindsX hkind _) (fun s₁ X => ?_) hco hgen hk
  obtain ⟨h₁, tk, e1, hk₁⟩ := X.done
  subst e1
  have kk := stays_trans st hk₁
  have nL : (hideAll s.heap (news.map (·.1))).get? s.heap.objs.size = none := by rw [← hideAll_size (news.map (·.1)) s.heap]; exact get_size _
  refine h h₁ tk ⟨⟨_, _, ⟨X.toInCall.ns, kk, Nat.le_of_eq (hideAll_size _ _)⟩, stays_refl, W, fun x v e => hl.look e⟩, kk, nL, fun p hp => ⟨hk₁ _ _ (hn p hp), Nat.ne_of_lt (Heap.lt_size (hn p hp)), hideAll_none _ (List.mem_map_of_mem hp)⟩, fun x v e => ?_, hnd⟩ hk₁
  obtain ⟨⟨c, hcl⟩, hf⟩ := hc.look e
  obtain ⟨o, a2, a3⟩ := X.cell x c hcl
  have hge : s.heap.objs.size + 1 ≤ c := by
    rcases cells_in hcl with ⟨y, hy⟩ | hy
    · cases hy
    · exact hy
  refine ⟨c, o, hcl, a2, hf ▸ a3, fun q => absurd (Nat.le_trans hge (Nat.le_of_eq q)) (Nat.not_succ_le_self _), ?_⟩
  cases q : (hideAll s.heap (news.map (·.1))).get? c with
  | none => rfl
  | some o' => exact absurd (Nat.lt_trans (Nat.lt_of_succ_le hge) (Heap.lt_size (st _ _ q))) (Nat.lt_irrefl _)
end
/-- what stands behind a turn of a loop -/
inductive Turned (w : World) (s : Shared) (L : Addr) (cl : List (Str × Addr)) (J : Heap → List (Str × Value) → List (Str × Option Value) → List (Addr × Obj) → Prop) (I : Addr) (o : Obj) (s₃ : Shared) : Prop
  | mk (h₀' : Heap) (l' : List (Str × Value)) (lc' : List (Str × Option Value)) (news' : List (Addr × Obj)) (h' : Heap) (tk' : Nat) : s₃ = { s with heap := h', toks := tk' } → J h₀' l' lc' news' → St w h₀' L cl l' lc' ((I, o) :: news') h' → Turned w s L cl J I o s₃
inductive TurnedR (w : World) (s : Shared) (h₀ : Heap) (L : Addr) (cl : List (Str × Addr)) (J : Heap → List (Str × Value) → List (Str × Option Value) → List (Addr × Obj) → Prop) (I : Addr) (o : Obj) (s₃ : Shared) : Prop
  | mk (h₀' : Heap) (l' : List (Str × Value)) (lc' : List (Str × Option Value)) (news' : List (Addr × Obj)) (h' : Heap) (tk' : Nat) : s₃ = { s with heap := h', toks := tk' } → h₀.StaysIn h₀' → J h₀' l' lc' news' → St w h₀' L cl l' lc' ((I, o) :: news') h' → TurnedR w s h₀ L cl J I o s₃
inductive TurnedE (w : World) (s : Shared) (h₀ : Heap) (L : Addr) (cl : List (Str × Addr)) (J : Heap → List (Str × Value) → List (Str × Option Value) → List (Addr × Obj) → Prop) (e : Addr) (oe : Obj) (I : Addr) (o : Obj) (s₃ : Shared) : Prop
  | mk (h₀' : Heap) (l' : List (Str × Value)) (lc' : List (Str × Option Value)) (news' : List (Addr × Obj)) (h' : Heap) (tk' : Nat) : s₃ = { s with heap := h', toks := tk' } → h₀.StaysIn h₀' → J h₀' l' lc' news' → St w h₀' L cl l' lc' ((e, oe) :: (I, o) :: news') h' → TurnedE w s h₀ L cl J e oe I o s₃
/-- what a statement about a call is about. A statement's own worst case, taken as a constant: a proof about constants is laid down once, however deep its steps stand -/
structure Cx where
  prog : Program
  w : World
  A : Around
  Q : Value → Shared → Prop
  E : Value → Shared → Prop
  s : Shared
noncomputable def Cx.one : Cx := ⟨default, Classical.choose World.exists_sane, {}, fun _ _ => True, fun _ _ => True, { heap := default, os := (start default).1.os }⟩
noncomputable def worst {α : Type} (a : α) (m : α → Nat) (P : α → Prop) : α := @Classical.epsilon α ⟨a⟩ fun c => ¬ P c ∧ ∀ b, m b < m c → P b
theorem worst_all {α : Type} (a : α) (m : α → Nat) (P : α → Prop) (h : (∀ b, m b < m (worst a m P) → P b) → P (worst a m P)) : ∀ c, P c := by
  have key : ∀ n c, m c = n → P c := by
    intro n
    induction n using Nat.strongRecOn with
    | ind n ih =>
      intro c hc
      refine Classical.byContradiction fun hn => ?_
      have ex : ∃ c, ¬ P c ∧ ∀ b, m b < m c → P b := ⟨c, hn, fun b hb => ih _ (hc ▸ hb) b rfl⟩
      have sp := Classical.epsilon_spec ex
      exact sp.1 (h sp.2)
  exact fun c => key _ c rfl
theorem worst_all0 {P : Cx → Prop} (h : P (worst Cx.one (fun _ => 0) P)) : ∀ c, P c := worst_all _ _ P fun _ => h
end Mine

/-! QRules -/
namespace Mine
theorem warmR : (PySem.Challenge.rw_qd0126_01.Holds → (wr.heap_1 = wr.heap_1) → True) := by
  k_fill
  intro _ _; trivial

/-- a call's place: nothing handled, room below -/
structure Rm (A : Around) (d u : Nat) : Prop where
  hh : A.handled = none
  hd : A.depth + d < 990
  hu : A.units + u < 9800
noncomputable abbrev Az : Around := { handled := none, depth := 990, frames := none, guards := none, units := 9800 }
theorem Rm.room {A : Around} {d u : Nat} (r : Rm A d u) : A.depth < recursionLimit := by have := r.hd; show A.depth < 1000; (first | exact omq2 _ _ this | omega)
theorem Rm.units {A : Around} {d u : Nat} (r : Rm A d u) : A.units < cLine := by have := r.hu; have := cLine_is; (first | exact omq3 _ _ _ (by assumption) this | omega)
theorem Rm.deeper {A : Around} {d u : Nat} {env : Env} (r : Rm A (d + 1) (u + 3)) : Rm (A.deeper env) d u :=
  ⟨r.hh, by have := r.hd; show A.depth + 1 + d < 990; (first | exact omq4 _ _ this | omega), by have := r.hu; show A.units + 3 + u < 9800; (first | exact omq5 _ _ this | omega)⟩
theorem Rm.dp {A : Around} {d u d' u' : Nat} {env : Env} (r : Rm A d u) (h1 : d' + 1 ≤ d := by decide) (h2 : u' + 3 ≤ u := by decide) : Rm (A.deeper env) d' u' :=
  ⟨r.hh, by have := r.hd; show A.depth + 1 + d' < 990; (first | exact omq6 _ _ _ h1 this | omega), by have := r.hu; show A.units + 3 + u' < 9800; (first | exact omq7 _ _ _ h2 this | omega)⟩
theorem Rm.in1 {A : Around} {d u : Nat} (r : Rm A d (u + 1)) : Rm A.in1 d u :=
  ⟨r.hh, r.hd, by have := r.hu; show A.units + 1 + u < 9800; (first | exact omq8 _ _ this | omega)⟩
theorem Rm.le {A : Around} {d u d' u' : Nat} (r : Rm A d u) (h1 : d' ≤ d) (h2 : u' ≤ u) : Rm A d' u' :=
  ⟨r.hh, by have := r.hd; (first | exact omq9 _ _ _ h1 this | omega), by have := r.hu; (first | exact omq10 _ _ _ h2 this | omega)⟩
theorem Rm.az {M : Model} {A : Around} {d u : Nat} {α : Type} {t : Sem α} {Q : α → Shared → Prop} {E : Value → Shared → Prop} {s : Shared} (r : Rm A d u) (h : wpAny M Az t Q E s) : wpAny M A t Q E s := by
  intro Γ p hΓ
  refine h Γ p ⟨hΓ.1.trans r.hh, ?_, fun l hl => (nomatch hl), fun l hl => (nomatch hl), ?_⟩
  · have := hΓ.2.1; have := r.hd; show _ ≤ 990; (first | exact omq11 _ _ _ _ (by assumption) this | omega)
  · have := hΓ.2.2.2.2; have := r.hu; show _ ≤ 9800; (first | exact omq12 _ _ _ (by assumption) this | omega)

section
variable {prog : Program} {w : World} {A : Around} {E : Value → Shared → Prop} {s : Shared} {x C : Addr} {ox od : Obj}
local macro_rules | `(tactic| x_close) => `(tactic| (rename (∀ _, _) => hqq; exact hqq _))
theorem isi_list_ref {a : Addr} {arr : Array Value} {n : Nat} {Q : Value → Shared → Prop} (KX : (wr.heap_1 w.params).In s.heap)
   (hx : s.heap.get? a = some { cls := .type "list", data := .seq arr n }) (h : ∀ tk, Q (.bool false) { s with toks := tk }) :
   wpAny (model prog w) A (call (.builtin "isinstance") [.ref a, .ref 254]) Q E s := by x_run
theorem isi_dict_ref {a : Addr} {arr : Array DictEntry} {n : Nat} {Q : Value → Shared → Prop} (KX : (wr.heap_1 w.params).In s.heap)
   (hx : s.heap.get? a = some { cls := .type "dict", data := .dict arr n }) (h : ∀ tk, Q (.bool false) { s with toks := tk }) :
   wpAny (model prog w) A (call (.builtin "isinstance") [.ref a, .ref 254]) Q E s := by x_run
theorem isi_list_str {a : Addr} {arr : Array Value} {n : Nat} {Q : Value → Shared → Prop} (KX : (wr.heap_1 w.params).In s.heap)
   (hx : s.heap.get? a = some { cls := .type "list", data := .seq arr n }) (h : ∀ tk, Q (.bool false) { s with toks := tk }) :
   wpAny (model prog w) A (call (.builtin "isinstance") [.ref a, .ref 205]) Q E s := by x_run
theorem isi_dict_str {a : Addr} {arr : Array DictEntry} {n : Nat} {Q : Value → Shared → Prop} (KX : (wr.heap_1 w.params).In s.heap)
   (hx : s.heap.get? a = some { cls := .type "dict", data := .dict arr n }) (h : ∀ tk, Q (.bool false) { s with toks := tk }) :
   wpAny (model prog w) A (call (.builtin "isinstance") [.ref a, .ref 205]) Q E s := by x_run
theorem isi_ref_ref {dx : Addr} {es : List DictEntry} {n : Nat} {Q : Value → Shared → Prop} (KX : (wr.heap_1 w.params).In s.heap)
   (hx : s.heap.get? x = some { cls := .ref 254, dict := some dx, data := .plain }) (hy : s.heap.get? dx = some { cls := .type "dict", data := .dict es.toArray n }) (h : ∀ tk, Q (.bool true) { s with toks := tk }) :
   wpAny (model prog w) A (call (.builtin "isinstance") [.ref x, .ref 254]) Q E s := by x_run
theorem isi_str_ref {dx : Addr} {t1 t2 : Tok} {v1 v2 : Value} {n : Nat} {Q : Value → Shared → Prop} (KX : (wr.heap_1 w.params).In s.heap)
   (hx : s.heap.get? x = some { cls := .ref 205, dict := some dx, data := .plain }) (hy : s.heap.get? dx = some { cls := .type "dict", data := .dict [kv w "octets" t1 v1, kv w "is_hex" t2 v2].toArray n }) (h : ∀ tk, Q (.bool false) { s with toks := tk }) :
   wpAny (model prog w) A (call (.builtin "isinstance") [.ref x, .ref 254]) Q E s := by x_run
end
end Mine
namespace Mine
section
variable {prog : Program} {w : World} {A : Around} {E : Value → Shared → Prop} {s : Shared} {h₀ : Heap} {L a : Addr} {cn : Str} {cs : Scope} {ccd : Value} {cl : List (Str × Addr)} {l : List (Str × Value)} {lc : List (Str × Option Value)} {news : List (Addr × Obj)}

/-- a field of one's own -/
theorem rAttr {x C : Addr} {ox : Obj} {es : List DictEntry} {n : Nat} {name : Str} {v : Value} {expr : Bool} {Q : Value → Shared → Prop} {attr : Option Value}
    (S : St w h₀ L cl l lc news s.heap) (I : PySem.W.InstAt s.heap x ox C (some (dictOf es n))) (hg : plainGet (wr.heap_1 w.params) C name = true) (hh : hasDictIn (wr.heap_1 w.params) C = true)
    (hf : findIn (wr.heap_1 w.params) (.ref C) name = some attr) (hn : noGet (wr.heap_1 w.params) attr = true) (hl : getL name es = some (some v)) (hi : handedIn v = true)
    (h : Q v { s with toks := s.toks + 1 }) : wpAny (model prog w) A (getAttr (.ref x) name expr) Q E s := by
  obtain ⟨_, _, F, _, W, _⟩ := S.fr
  exact get_own F W.K I hg hh hf hn hl hi h
theorem rMeth {x C f : Addr} {ox : Obj} {es : List DictEntry} {n : Nat} {name : Str} {pl : Sem Bool} {Q : Value × List Value → Shared → Prop}
    (S : St w h₀ L cl l lc news s.heap) (I : PySem.W.InstAt s.heap x ox C (some (dictOf es n))) (hg : plainGet (wr.heap_1 w.params) C name = true)
    (hf : findIn (wr.heap_1 w.params) (.ref C) name = some (some (.ref f))) (hn : isFn (wr.heap_1 w.params) (.ref f) = true) (hl : getL name es = some none)
    (h : Q (.ref f, [.ref x]) s) : wpAny (model prog w) A (getMethod (.ref x) name pl) Q E s := by
  obtain ⟨_, _, F, _, W, _⟩ := S.fr
  exact method_inst F W.K I hg hf hn hl h
theorem rCW {env : Env} {pos : Pos} {f : Value} {first : List Value} {Q : Value → Shared → Prop} {e : Expr} {rest : List Expr} (S : St w h₀ L cl l lc news s.heap) (hk : keepIn (wr.heap_1 w.params) f = true)
    (h : wpAny (model prog w) A (spliced (backTo pos (starEach (e :: rest) env))) (fun vs s₁ => (wr.heap_1 w.params).In s₁.heap ∧ wpAny (model prog w) A (call f (first ++ vs)) Q E s₁) E s)
    (he : starEach (e :: rest) env = (false, eval e env) :: starEach rest env := by rfl) (hp : ((backTo pos (starEach rest env)).any fun x => x.fst) = false := by rfl) :
    wpAny (model prog w) A (callWith pos f first (backTo pos (starEach (e :: rest) env)) []) Q E s := callWith_K (h₀ := h₀) S.wd.K hk h he hp
theorem rCW0 {env : Env} {pos : Pos} {f : Value} {first : List Value} {Q : Value → Shared → Prop} (S : St w h₀ L cl l lc news s.heap) (hk : keepIn (wr.heap_1 w.params) f = true)
    (h : wpAny (model prog w) A (call f (first ++ [])) Q E s) : wpAny (model prog w) A (callWith pos f first (backTo pos (starEach [] env)) []) Q E s := callWith_K0 S.wdh.K hk h
theorem rIsi {v t : Value} {C : Addr} {Q : Value → Shared → Prop} (S : St w h₀ L cl l lc news s.heap) (ht : ∀ M, Looks M s.heap (typeOf v) t) (e : isIn (wr.heap_1 w.params) t C = true) (hx : v ≠ .builtin "__main__.__loader__#opaque") (h : Q (.bool true) s) :
    wpAny (model prog w) A (call (.builtin "isinstance") [v, .ref C]) Q E s := isi_call S.wdh.K ht e hx h
theorem rTup {vs : List Value} {Q : Value → Shared → Prop} (S : St w h₀ L cl l lc news s.heap) (hsz : vs.length ≤ sizeLine)
    (h : ∀ a h', s.heap.get? a = none → s.heap.StaysIn h' → St w h₀ L cl l lc ((a, { cls := .type "tuple", data := .seq vs.toArray }) :: news) h' → Q (.ref a) { s with heap := h' }) : wpAny (model prog w) A (newTuple vs) Q E s := by
  refine wpAny_newObj_type ?_ (by show vs.toArray.size ≤ sizeLine; rw [List.size_toArray]; exact hsz)
  exact h _ _ (by simp [Heap.get?]) (fun b o e => Heap.get?_push_of_some _ e) (S.push _ rfl)
theorem rLst {vs : List Value} {Q : Value → Shared → Prop} (S : St w h₀ L cl l lc news s.heap) (hsz : vs.length ≤ sizeLine)
    (h : ∀ a h', s.heap.get? a = none → s.heap.StaysIn h' → St w h₀ L cl l lc ((a, { cls := .type "list", data := .seq vs.toArray }) :: news) h' → Q (.ref a) { s with heap := h' }) : wpAny (model prog w) A (newList vs) Q E s := by
  refine wpAny_newObj_type ?_ (by show vs.toArray.size ≤ sizeLine; rw [List.size_toArray]; exact hsz)
  exact h _ _ (by simp [Heap.get?]) (fun b o e => Heap.get?_push_of_some _ e) (S.push _ rfl)
/-- a dict's get with a default, by its map -/
theorem rGet2 {K : Type} [DecidableEq K] {knd : PySem.KeyKind prog w K} {d : Addr} {f : K → Option Value} {k : K} {key dflt : Value} {Q : Value → Shared → Prop} (hkey : knd.is k key = true) (hm : s.heap.MapOf knd d f) (lo : (d == sysModules) = false)
    (h : Q ((f k).getD dflt) { s with toks := s.toks + 1 }) : wpAny (model prog w) A (call (.builtin "dict.get") [.ref d, key, dflt]) Q E s :=
  call_meetsIn PySem.F.slot_dict_get hm.typeIs PySem.F.entry_dict_get (PySem.F.args_dict_get_3 _ _ _) (meets_dict_get_default knd d hkey lo dflt) ⟨_, hm, h⟩
theorem rGet1 {K : Type} [DecidableEq K] {knd : PySem.KeyKind prog w K} {d : Addr} {f : K → Option Value} {k : K} {key : Value} {Q : Value → Shared → Prop} (hkey : knd.is k key = true) (hm : s.heap.MapOf knd d f) (lo : (d == sysModules) = false)
    (h : Q ((f k).getD .none) { s with toks := s.toks + 1 }) : wpAny (model prog w) A (call (.builtin "dict.get") [.ref d, key]) Q E s :=
  call_meetsIn PySem.F.slot_dict_get hm.typeIs PySem.F.entry_dict_get (PySem.F.args_dict_get_2 _ _) (meets_dict_get knd d hkey lo) ⟨_, hm, h⟩
theorem rMethGet {K : Type} [DecidableEq K] {knd : PySem.KeyKind prog w K} {d : Addr} {f : K → Option Value} {pl : Sem Bool} {Q : Value × List Value → Shared → Prop} (hm : s.heap.MapOf knd d f)
    (h : Q (.builtin "dict.get", [.ref d]) s) : wpAny (model prog w) A (getMethod (.ref d) "get" pl) Q E s :=
  getMethod_builtin hm.typeIs PySem.F.plainAttrs_dict PySem.F.slot_dict_get PySem.F.type_dict_get hm.noDict h
/-- unpacking a tuple into names -/
theorem rUnp {elts : List Expr} {k} {pos : Pos} {t : Addr} {items : List Value} {n : Nat} {env : Env} {Q : Unit → Shared → Prop} (S : St w h₀ L cl l lc news s.heap) (hh : A.handled = none) (ht : s.heap.get? t = some { cls := .type "tuple", data := .seq items.toArray n })
    (hn : (assignEach elts env).length = items.length) (hstar : (assignEach elts env).findIdx? (·.1) = none)
    (h : ∀ h', s.heap.StaysIn h' → St w h₀ L cl l lc news h' → wpAny (model prog w) A (assignInOrder ((assignEach elts env).map (·.2)) items) Q E { s with heap := h' }) :
    wpAny (model prog w) A (assign (.Tuple elts k pos) env (.ref t)) Q E s := by
  refine assign_Tuple_tuple hh (items := items.toArray) ⟨_, ht, rfl, n, rfl⟩ (by simpa using hn) hstar fun h' he => ?_
  have st : s.heap.StaysIn h' := fun b o e => he b o (Nat.ne_of_lt (Heap.lt_size e)) e
  exact h h' st (S.keeps st)
theorem rUnpItems {t : Addr} {items : List Value} {n m : Nat} {Q : List Value → Shared → Prop} (S : St w h₀ L cl l lc news s.heap) (hh : A.handled = none) (ht : s.heap.get? t = some { cls := .type "tuple", data := .seq items.toArray n }) (hm : m = items.length)
    (h : ∀ h', s.heap.StaysIn h' → St w h₀ L cl l lc news h' → Q items { s with heap := h' }) : wpAny (model prog w) A (unpackItems (.ref t) m none) Q E s := by
  subst hm
  have e := unpackItems_tuple (prog := prog) (w := w) (A := A) (E := E) (s := s) (t := t) (items := items.toArray) (Q := Q) hh ⟨_, ht, rfl, n, rfl⟩ fun h' he => by
    have st : s.heap.StaysIn h' := fun b o e => he b o (Nat.ne_of_lt (Heap.lt_size e)) e
    exact h h' st (S.keeps st)
  simpa using e
end
end Mine

namespace Mine
theorem app0 {M : Model} {A : Around} {f : Value} {xs : List Value} {Q E : Value → Shared → Prop} {s : Shared} (h : wpAny M A (call f xs) Q E s) : wpAny M A (call f ([] ++ xs)) Q E s := h
theorem iteN {P R : Prop} (h : R) : (if ((!true) = true) then P else R) := by simpa using h
theorem iteM {P R : Prop} (h : P) : (if ((!false) = true) then P else R) := by simpa using h
theorem mapKeep {prog : Program} {w : World} {K : Type} [DecidableEq K] {knd : PySem.KeyKind prog w K} {h h' : Heap} {d : Addr} {f : K → Option Value} (m : h.MapOf knd d f) (k : h.StaysIn h') : h'.MapOf knd d f :=
  (by obtain ⟨o, es, ep, ho, r⟩ := m; exact ⟨o, es, ep, k _ _ ho, r⟩)
theorem aeN {M : Model} {A : Around} {E : Value → Shared → Prop} {s : Shared} {x : Str} {p : Pos} {rest : List Expr} {env : Env} {v : Value} {vs : List Value} {Q : Unit → Shared → Prop}
    (h : wpAny M A (assign (.Name x p) env v) (fun _ s₁ => wpAny M A (assignInOrder ((assignEach rest env).map (·.2)) vs) Q E s₁) E s) : wpAny M A (assignInOrder ((assignEach (.Name x p :: rest) env).map (·.2)) (v :: vs)) Q E s := PyProof.Rows.assignInOrder_cons h
theorem aeT {M : Model} {A : Around} {E : Value → Shared → Prop} {s : Shared} {es : List Expr} {k : Nat} {p : Pos} {rest : List Expr} {env : Env} {v : Value} {vs : List Value} {Q : Unit → Shared → Prop}
    (h : wpAny M A (assign (.Tuple es k p) env v) (fun _ s₁ => wpAny M A (assignInOrder ((assignEach rest env).map (·.2)) vs) Q E s₁) E s) : wpAny M A (assignInOrder ((assignEach (.Tuple es k p :: rest) env).map (·.2)) (v :: vs)) Q E s := PyProof.Rows.assignInOrder_cons h
theorem ae0 {M : Model} {A : Around} {E : Value → Shared → Prop} {s : Shared} {env : Env} {vs : List Value} {Q : Unit → Shared → Prop} (h : Q () s) : wpAny M A (assignInOrder ((assignEach [] env).map (·.2)) vs) Q E s := PyProof.Rows.assignInOrder_nil h
end Mine

/-! QLoop -/
namespace Mine
section
variable {prog : Program} {w : World} {A : Around} {E : Value → Shared → Prop} {s : Shared} {h₀ h h' : Heap} {L a : Addr} {cl : List (Str × Addr)} {l : List (Str × Value)} {lc : List (Str × Option Value)} {news : List (Addr × Obj)}

theorem loopW {target : Expr} {body orelse : List Stmt} {env : Env} {R : Result → Shared → Prop} {s₀ : Shared} {I : Addr} {fp : List Addr} {n : Nat} {P : Nat → Value → Prop} {It : Nat → Heap → Prop}
    (W : Walks prog w A I fp [I] n P It) (ob : Addr → Obj) (hit : ∀ i h, It i h → ∃ o, h.get? I = some o ∧ ∃ vs, o.data = .fields vs)
    (J : Nat → Heap → List (Str × Value) → List (Str × Option Value) → List (Addr × Obj) → Prop)
    (hfp : ∀ i h₀ l lc news h, J i h₀ l lc news → St w h₀ L cl l lc news h → ∀ b ∈ fp, b ≠ I → h.get? b = some (ob b))
    (hgo : ∀ (i : Nat) (v : Value) (Q : Unit → Shared → Prop) (E : Value → Shared → Prop) (s' : Shared), It i s'.heap → Q () s' → wpAny (model prog w) A (letOwnedTupleGo target (.ref I) v) Q E s')
    (turn : ∀ i v h₀ l lc news h tk o, i < n → (∃ vs, o.data = .fields vs) → P i v → J i h₀ l lc news → St w h₀ L cl l lc ((I, o) :: news) h →
      wpAny (model prog w) A (assign target env v) (fun _ s₂ => wpAny (model prog w) A (execs body env) (fun f s₃ => match f with
          | .next => Turned w s₀ L cl (J (i + 1)) I o s₃
          | .cont => Turned w s₀ L cl (J (i + 1)) I o s₃
          | .brk => R (.ok .next) s₃
          | .ret v => R (.ok (.ret v)) s₃)
        (notedBy (model prog w) A env fun e s' => R (.error e) s') s₂) (notedBy (model prog w) A env fun e s' => R (.error e) s') { s₀ with heap := h, toks := tk })
    (done : ∀ h₀ l lc news h tk, J n h₀ l lc news → St w h₀ L cl l lc news h →
      wpAny (model prog w) A (execs orelse env) (fun f s₃ => R (.ok f) s₃) (notedBy (model prog w) A env fun e s' => R (.error e) s') { s₀ with heap := h, toks := tk })
    {tk : Nat} {o : Obj} (h0 : J 0 h₀ l lc news) (S : St w h₀ L cl l lc ((I, o) :: news) h) (hI : It 0 h) :
    codeAny (model prog w) A (.forLoop target (.ref I) body orelse env) R { s₀ with heap := h, toks := tk } := by
  refine codeAny_forLoop_any (fun k s' => ∃ i h₀ l lc news h tk o, s' = { s₀ with heap := h, toks := tk } ∧ J i h₀ l lc news ∧ St w h₀ L cl l lc ((I, o) :: news) h ∧ It i h ∧ i ≤ n ∧ k = n + 1 - i) ?_ (n + 1)
    ⟨0, h₀, l, lc, news, h, tk, o, rfl, h0, S, hI, Nat.zero_le _, rfl⟩
  rintro k s' ⟨i, h₀, l, lc, news, h, tk, o, rfl, hJ, S, hI, hi, rfl⟩
  obtain ⟨o1, e1, hf1⟩ := hit _ _ hI
  have hc1 : ∀ v, o1.data ≠ .cell v := fun v q => by obtain ⟨_, e⟩ := hf1; rw [e] at q; cases q
  have : o1 = o := by have := S.new (.head _); rw [e1] at this; cases this; rfl
  subst this
  by_cases hlt : i < n
  · refine W.item i _ _ _ hlt hI fun v h₁ tk₁ hP hI₁ hk₁ => ?_
    obtain ⟨o2, e2, hc2⟩ := hit _ _ hI₁
    have S₁ := S.head hc1 hk₁ e2
    refine hgo (i + 1) v _ _ _ hI₁ ?_
    refine wpAny_mono (turn i v h₀ l lc news h₁ tk₁ o2 hlt hc2 hP hJ S₁) (fun _ s₂ h₂ => wpAny_mono h₂ (fun f s₃ h₃ => ?_) fun _ _ e => e) fun _ _ e => e
    have go : (Turned w s₀ L cl (J (i + 1)) I o2 s₃) →
        ∃ m, m < n + 1 - i ∧ ∃ i h₀ l lc news h tk o, s₃ = { s₀ with heap := h, toks := tk } ∧ J i h₀ l lc news ∧ St w h₀ L cl l lc ((I, o) :: news) h ∧ It i h ∧ i ≤ n ∧ m = n + 1 - i := by
      rintro ⟨h₀', l', lc', news', h', tk', e, hJ', S'⟩
      refine ⟨n + 1 - (i + 1), by (first | exact omq13 _ _ hlt | omega), i + 1, h₀', l', lc', news', h', tk', o2, e, hJ', S', W.frame _ _ _ hI₁ fun b hb x ex => ?_, hlt, rfl⟩
      by_cases hbI : b = I
      · subst hbI; rw [e2] at ex; cases ex; exact S'.new (.head _)
      · have q1 := hfp _ _ _ _ _ _ hJ S₁.tail b hb hbI
        rw [q1] at ex; cases ex
        exact hfp _ _ _ _ _ _ hJ' S'.tail b hb hbI
    cases f with
    | next => exact go h₃
    | cont => exact go h₃
    | brk => exact h₃
    | ret v => exact h₃
  · have hin : i = n := by (first | exact omq14 _ _ hi hlt | omega)
    subst hin
    refine W.done _ _ _ hI fun h₁ tk₁ hk₁ => ?_
    exact done h₀ l lc news h₁ tk₁ hJ (S.but hc1 hk₁)


/-- a for over a list: the turns by J -/
theorem forList {target : Expr} {body orelse : List Stmt} {env : Env} {R : Result → Shared → Prop} {la : Addr} {arr : List Value} {k : Nat}
    (J : Nat → Heap → List (Str × Value) → List (Str × Option Value) → List (Addr × Obj) → Prop)
    (S : St w h₀ L cl l lc news s.heap) (hh : A.handled = none) (hl : s.heap.get? la = some { cls := .type "list", data := .seq arr.toArray k })
    (h0 : J 0 h₀ l lc news) (hfp : ∀ i h₀ l lc news h, J i h₀ l lc news → St w h₀ L cl l lc news h → h.get? la = some { cls := .type "list", data := .seq arr.toArray k })
    (turn : ∀ i v h₀ l lc news h tk I o, (∃ vs, o.data = .fields vs) → arr[i]? = some v → J i h₀ l lc news → St w h₀ L cl l lc ((I, o) :: news) h →
      wpAny (model prog w) A (assign target env v) (fun _ s₂ => wpAny (model prog w) A (execs body env) (fun f s₃ => match f with
          | .next => Turned w s L cl (J (i + 1)) I o s₃
          | .cont => Turned w s L cl (J (i + 1)) I o s₃
          | .brk => R (.ok .next) s₃
          | .ret v => R (.ok (.ret v)) s₃)
        (notedBy (model prog w) A env fun e s' => R (.error e) s') s₂) (notedBy (model prog w) A env fun e s' => R (.error e) s') { s with heap := h, toks := tk })
    (done : ∀ h₀ l lc news h tk, J arr.length h₀ l lc news → St w h₀ L cl l lc news h →
      wpAny (model prog w) A (execs orelse env) (fun f s₃ => R (.ok f) s₃) (notedBy (model prog w) A env fun e s' => R (.error e) s') { s with heap := h, toks := tk })
    (hgo : (∀ I v, letOwnedTupleGo target (.ref I) v = pure ()) ∨ ∃ elts x pos, target = .Tuple elts x pos := by first | exact .inl (by intro _ _; rfl) | exact .inr ⟨_, _, _, rfl⟩) :
    wpAny (model prog w) A (pyIter (.ref la)) (fun it s₂ => codeAny (model prog w) A (.forLoop target it body orelse env) R s₂) E s := by
  have hL : s.heap.IsList la arr.toArray := ⟨_, hl, rfl, k, rfl⟩
  refine wpAny_pyIter_list hL ?_
  have ne : la ≠ s.heap.objs.size := Nat.ne_of_lt (Heap.lt_size hl)
  have W := Walks.list (prog := prog) (w := w) hh s.heap.objs.size la ne arr.toArray
  have sz : arr.toArray.size = arr.length := by simp
  rw [sz] at W
  refine loopW (s₀ := s) W (fun b => if b = la then { cls := .type "list", data := .seq arr.toArray k } else default) (fun i h hI => ?_) J (fun i h₀ l lc news h hJ S b hb hne => ?_) (fun i v Q E s' hI hQ => ?_) (fun i v h₀ l lc news h tk o hi hof hP hJ S => ?_) (fun h₀ l lc news h tk hJ S => done h₀ l lc news h tk hJ S) h0 (S.push _ rfl) ⟨?_, ?_⟩
  · obtain ⟨o, ho, hc, hd⟩ := hI.1
    exact ⟨o, ho, _, hd⟩
  · rcases List.mem_cons.mp hb with rfl | hb
    · exact absurd rfl hne
    · rw [List.mem_singleton.mp hb, if_pos rfl]; exact hfp i h₀ l lc news h hJ S
  · rcases hgo with hgo | ⟨elts, x, pos, rfl⟩
    · exact wpAny_of_eq (hgo _ v) hQ
    · cases v <;> first | exact wpAny_letOwnedTupleGo_listiter hI.1 hQ | exact wpAny_pure hQ
  · exact turn i v h₀ l lc news h tk _ o hof (by simpa using hP) hJ S
  · exact ⟨_, Heap.get?_push_size _ rfl, rfl, by first | rfl | exact ⟨_, rfl⟩ | simp⟩
  · exact ⟨_, Heap.get?_push_of_some _ hl, rfl, k, rfl⟩

/-- a for over range(n) -/
theorem forRange {target : Expr} {body orelse : List Stmt} {env : Env} {R : Result → Shared → Prop} {n : Nat} {t : Tok}
    (J : Nat → Heap → List (Str × Value) → List (Str × Option Value) → List (Addr × Obj) → Prop)
    (S : St w h₀ L cl l lc news s.heap) (hh : A.handled = none) (hn : n < 2 ^ 62) (h0 : J 0 h₀ l lc news)
    (turn : ∀ i t h₀ l lc news h tk I o, (∃ vs, o.data = .fields vs) → i < n → J i h₀ l lc news → St w h₀ L cl l lc ((I, o) :: news) h →
      wpAny (model prog w) A (assign target env (.int i t)) (fun _ s₂ => wpAny (model prog w) A (execs body env) (fun f s₃ => match f with
          | .next => Turned w s L cl (J (i + 1)) I o s₃
          | .cont => Turned w s L cl (J (i + 1)) I o s₃
          | .brk => R (.ok .next) s₃
          | .ret v => R (.ok (.ret v)) s₃)
        (notedBy (model prog w) A env fun e s' => R (.error e) s') s₂) (notedBy (model prog w) A env fun e s' => R (.error e) s') { s with heap := h, toks := tk })
    (done : ∀ h₀ l lc news h tk, J n h₀ l lc news → St w h₀ L cl l lc news h →
      wpAny (model prog w) A (execs orelse env) (fun f s₃ => R (.ok f) s₃) (notedBy (model prog w) A env fun e s' => R (.error e) s') { s with heap := h, toks := tk })
    (hgo : ∀ I v, letOwnedTupleGo target (.ref I) v = pure () := by intro _ _; rfl) :
    wpAny (model prog w) A (call (.type "range") [.int n t]) (fun x s₁ => wpAny (model prog w) A (pyIter x) (fun it s₂ => codeAny (model prog w) A (.forLoop target it body orelse env) R s₂) E s₁) E s := by
  refine call_range_1 (wpAny_pyIter_range (IsRange.new _ _ _ _ _ _ _) (small_one (by decide) (by decide) (by (first | exact omq15 _ hn | omega)) (by (first | exact omq16 _ hn | omega))) ?_)
  have rs : Builtin.Range.rangeSize 0 (n : Int) 1 = n := by rw [rangeSize_one]; split <;> (first | exact omq17 _ | exact omq18 _ hn (by assumption) | omega)
  rw [rs]
  refine loopW (s₀ := s) (Walks.range (prog := prog) (w := w) hh _ 0 1 n) (fun _ => default) (fun i h hI => ⟨_, hI, _, rfl⟩) J (fun i h₀ l lc news h hJ S b hb hne => absurd (List.mem_singleton.mp hb) hne) (fun i v Q E s' hI hQ => wpAny_of_eq (hgo _ v) hQ) (fun i v h₀ l lc news h tk o hi hof hP hJ S => ?_) (fun h₀ l lc news h tk hJ S => done h₀ l lc news h tk hJ S) h0 ((S.push _ rfl).push _ rfl |>.snd) ?_
  · obtain ⟨t', rfl⟩ := hP
    have e : (0 : Int) + (i : Int) * 1 = i := by (first | exact omq19 _ | omega)
    rw [e]
    exact turn i t' h₀ l lc news h tk _ o hof hi hJ S
  · show IsRangeIter _ _ _ _ _
    unfold IsRangeIter
    rw [Heap.get?_push_size _ rfl]
    simp
end
end Mine

/-! QData -/
namespace Mine
theorem warmD : (PySem.Challenge.rw_qd0126_01.Holds → (wr.heap_1 = wr.heap_1) → True) := by
  k_fill
  intro _ _; trivial

noncomputable abbrev lstO (arr : List Value) (k : Nat) : Obj := { cls := .type "list", data := .seq arr.toArray k }
noncomputable abbrev tupO (arr : List Value) (k : Nat) : Obj := { cls := .type "tuple", data := .seq arr.toArray k }

/-- a Reference with generation 0 -/
noncomputable def IsRef (w : World) (h : Heap) (r : Addr) (n : Int) : Prop :=
  ∃ dr t1 t2 t3 t4 k, h.get? r = some (instObj 254 dr) ∧ h.get? dr = some (dictOf [kv w "number" t1 (.int n t2), kv w "generation" t3 (.int 0 t4)] k)
noncomputable def IsNm (w : World) (h : Heap) (a : Addr) (x : Str) : Prop :=
  ∃ d t1 t2 k, h.get? a = some (instObj 183 d) ∧ h.get? d = some (dictOf [kv w "text" t1 (.str x t2)] k)
noncomputable def IsSt (w : World) (h : Heap) (a : Addr) (b : Array UInt8) : Prop :=
  ∃ d t1 t2 t3 k, h.get? a = some (instObj 205 d) ∧ h.get? d = some (dictOf [kv w "octets" t1 (.bytes b t2), kv w "is_hex" t3 (.bool false)] k)
noncomputable def IsGrp (w : World) (h : Heap) (o : Addr) : Prop :=
  ∃ nm t k, h.get? o = some (dictOf [kv w "Type" t (.ref nm)] k) ∧ IsNm w h nm "OCG" ∧ (o == sysModules) = false
/-- a Shelf whose table holds the objects g, each of generation 0 -/
noncomputable def IsShelf (prog : Program) (w : World) (h : Heap) (sh : Addr) (g : Int → Option Addr) : Prop :=
  ∃ dsh tb tr t1 t2 k f, h.get? sh = some (instObj 363 dsh) ∧ h.get? dsh = some (dictOf [kv w "table" t1 (.ref tb), kv w "trailer" t2 tr] k) ∧
    h.MapOf (intKind prog w) tb f ∧ (tb == sysModules) = false ∧ ∀ n o, g n = some o → ∃ tp t m, f n = some (.ref tp) ∧ h.get? tp = some (tupO [.int 0 t, .ref o] m)

inductive Item where
  | ref (n : Int)
  | lab (b : Array UInt8)
  | nm (x : Str)
noncomputable def ItemIs (w : World) (h : Heap) (v : Value) : Item → Prop
  | .ref n => ∃ a, v = .ref a ∧ IsRef w h a n
  | .lab b => ∃ a, v = .ref a ∧ IsSt w h a b
  | .nm x => ∃ a, v = .ref a ∧ IsNm w h a x
noncomputable def Its (w : World) (h : Heap) : List Value → List Item → Prop
  | [], [] => True
  | v :: vs, i :: is => ItemIs w h v i ∧ Its w h vs is
  | _, _ => False
/-- the groups 1 to 4 and the rows -/
structure ShelfAt (prog : Program) (w : World) (h : Heap) (sh : Addr) (rows : Int → Option (List Item)) : Prop where
  mk :: (all : ∃ g, IsShelf prog w h sh g ∧ (∀ n : Int, 1 ≤ n → n ≤ 4 → ∃ o, g n = some o ∧ IsGrp w h o) ∧
    ∀ n its, rows n = some its → ∃ o arr k, g n = some o ∧ h.get? o = some (lstO arr k) ∧ Its w h arr its)

section
variable {prog : Program} {w : World} {h h' : Heap}
theorem IsRef.keep {r : Addr} {n : Int} (x : IsRef w h r n) (k : h.StaysIn h') : IsRef w h' r n :=
  (by obtain ⟨d, a, b, c, e, f, p, q⟩ := x; exact ⟨d, a, b, c, e, f, k _ _ p, k _ _ q⟩)
theorem IsNm.keep {r : Addr} {n : Str} (x : IsNm w h r n) (k : h.StaysIn h') : IsNm w h' r n :=
  (by obtain ⟨d, a, b, c, p, q⟩ := x; exact ⟨d, a, b, c, k _ _ p, k _ _ q⟩)
theorem IsSt.keep {r : Addr} {n : Array UInt8} (x : IsSt w h r n) (k : h.StaysIn h') : IsSt w h' r n :=
  (by obtain ⟨d, a, b, c, e, p, q⟩ := x; exact ⟨d, a, b, c, e, k _ _ p, k _ _ q⟩)
theorem IsGrp.keep {r : Addr} (x : IsGrp w h r) (k : h.StaysIn h') : IsGrp w h' r :=
  (by obtain ⟨d, a, b, p, q, lo⟩ := x; exact ⟨d, a, b, k _ _ p, q.keep k, lo⟩)
theorem IsShelf.keep {sh : Addr} {g : Int → Option Addr} (x : IsShelf prog w h sh g) (k : h.StaysIn h') : IsShelf prog w h' sh g :=
  (by obtain ⟨d, tb, tr, a, b, c, f, p, q, m, lo, r⟩ := x; exact ⟨d, tb, tr, a, b, c, f, k _ _ p, k _ _ q, mapKeep m k, lo, fun n o e => (by obtain ⟨tp, t, m, u, v⟩ := r n o e; exact ⟨tp, t, m, u, k _ _ v⟩)⟩)
theorem ItemIs.keep {v : Value} {i : Item} (x : ItemIs w h v i) (k : h.StaysIn h') : ItemIs w h' v i := by
  cases i with
  | ref n => obtain ⟨a, e, y⟩ := x; exact ⟨a, e, y.keep k⟩
  | lab b => obtain ⟨a, e, y⟩ := x; exact ⟨a, e, y.keep k⟩
  | nm b => obtain ⟨a, e, y⟩ := x; exact ⟨a, e, y.keep k⟩
theorem Its.keep (k : h.StaysIn h') : ∀ {vs : List Value} {is : List Item}, Its w h vs is → Its w h' vs is
  | [], [], _ => trivial
  | _ :: _, _ :: _, ⟨a, b⟩ => ⟨a.keep k, Its.keep k b⟩
  | [], _ :: _, x => x
  | _ :: _, [], x => x
theorem Its.length : ∀ {vs : List Value} {is : List Item}, Its w h vs is → vs.length = is.length
  | [], [], _ => rfl
  | _ :: _, _ :: _, ⟨_, b⟩ => by rw [List.length_cons, List.length_cons, Its.length b]
  | [], _ :: _, x => x.elim
  | _ :: _, [], x => x.elim
theorem Its.get : ∀ {vs : List Value} {is : List Item}, Its w h vs is → ∀ {i : Nat} {v : Value}, vs[i]? = some v → ∃ it, is[i]? = some it ∧ ItemIs w h v it
  | [], [], _, _, _, e => by simp at e
  | v :: vs, t :: is, ⟨a, b⟩, i, u, e => by
    cases i with
    | zero => rw [List.getElem?_cons_zero] at e; cases e; exact ⟨t, rfl, a⟩
    | succ i => rw [List.getElem?_cons_succ] at e ⊢; exact Its.get b e
  | [], _ :: _, x, _, _, _ => x.elim
  | _ :: _, [], x, _, _, _ => x.elim
theorem Its.append : ∀ {vs us : List Value} {is js : List Item}, Its w h vs is → Its w h us js → Its w h (vs ++ us) (is ++ js)
  | [], _, [], _, _, y => y
  | _ :: _, _, _ :: _, _, ⟨a, b⟩, y => ⟨a, Its.append b y⟩
  | [], _, _ :: _, _, x, _ => x.elim
  | _ :: _, _, [], _, x, _ => x.elim
theorem ShelfAt.keep {sh : Addr} {rows : Int → Option (List Item)} (x : ShelfAt prog w h sh rows) (k : h.StaysIn h') : ShelfAt prog w h' sh rows :=
  (by obtain ⟨g, a, b, c⟩ := x.all; exact ⟨g, a.keep k, fun n h1 h2 => (by obtain ⟨o, p, q⟩ := b n h1 h2; exact ⟨o, p, q.keep k⟩), fun n its e => (by obtain ⟨o, arr, m, p, q, r⟩ := c n its e; exact ⟨o, arr, m, p, k _ _ q, r.keep k⟩)⟩)
/-- a dict of one written key, as a map -/
theorem map1 {o : Addr} {x : Str} {t : Tok} {v : Value} {k : Nat} (e : h.get? o = some (dictOf [kv w x t v] k)) : h.MapOf (strKind prog w) o (fun y => if x = y then some v else none) := by
  refine ⟨_, _, _, e, ⟨rfl, rfl, rfl⟩, rfl, fun d hd => ?_, fun y => ?_⟩
  · have : d = kv w x t v := by simpa using hd
    subst this
    exact ⟨x, strKind_is prog w x t, rfl⟩
  · unfold findBy
    simp only [List.find?_toArray, List.find?_cons, List.find?_nil, kv]
    show Option.map _ (match Value.isStrOf y (.str x t) with | true => _ | false => _) = _
    by_cases q : x = y
    · subst q; simp [Value.isStrOf]
    · have : Value.isStrOf y (.str x t) = false := by simp [Value.isStrOf, q]
      rw [this, if_neg q]; rfl
end

section
variable {prog : Program} {w : World} {A : Around} {E : Value → Shared → Prop} {s : Shared} {x C : Addr}
local macro_rules | `(tactic| x_close) => `(tactic| (rename (∀ _, _) => hqq; exact hqq _))
theorem isi_nm_ref {dx : Addr} {t1 t2 : Tok} {y : Str} {n : Nat} {Q : Value → Shared → Prop} (KX : (wr.heap_1 w.params).In s.heap)
   (hx : s.heap.get? x = some { cls := .ref 183, dict := some dx, data := .plain }) (hy : s.heap.get? dx = some { cls := .type "dict", data := .dict [kv w "text" t1 (.str y t2)].toArray n }) (h : ∀ tk, Q (.bool false) { s with toks := tk }) :
   wpAny (model prog w) A (call (.builtin "isinstance") [.ref x, .ref 254]) Q E s := by x_run
theorem isi_nm_nm {dx : Addr} {t1 t2 : Tok} {y : Str} {n : Nat} {Q : Value → Shared → Prop} (KX : (wr.heap_1 w.params).In s.heap)
   (hx : s.heap.get? x = some { cls := .ref 183, dict := some dx, data := .plain }) (hy : s.heap.get? dx = some { cls := .type "dict", data := .dict [kv w "text" t1 (.str y t2)].toArray n }) (h : ∀ tk, Q (.bool true) { s with toks := tk }) :
   wpAny (model prog w) A (call (.builtin "isinstance") [.ref x, .ref 183]) Q E s := by x_run
theorem isi_str_str {dx : Addr} {t1 t2 : Tok} {v1 v2 : Value} {n : Nat} {Q : Value → Shared → Prop} (KX : (wr.heap_1 w.params).In s.heap)
   (hx : s.heap.get? x = some { cls := .ref 205, dict := some dx, data := .plain }) (hy : s.heap.get? dx = some { cls := .type "dict", data := .dict [kv w "octets" t1 v1, kv w "is_hex" t2 v2].toArray n }) (h : ∀ tk, Q (.bool true) { s with toks := tk }) :
   wpAny (model prog w) A (call (.builtin "isinstance") [.ref x, .ref 205]) Q E s := by x_run
theorem isi_str_list {dx : Addr} {t1 t2 : Tok} {v1 v2 : Value} {n : Nat} {Q : Value → Shared → Prop} (KX : (wr.heap_1 w.params).In s.heap)
   (hx : s.heap.get? x = some { cls := .ref 205, dict := some dx, data := .plain }) (hy : s.heap.get? dx = some { cls := .type "dict", data := .dict [kv w "octets" t1 v1, kv w "is_hex" t2 v2].toArray n }) (h : ∀ tk, Q (.bool false) { s with toks := tk }) :
   wpAny (model prog w) A (call (.builtin "isinstance") [.ref x, .type "list"]) Q E s := by x_run
end
end Mine

/-! QComp -/
namespace Mine
section
variable {prog : Program} {w : World} {A : Around} {E : Value → Shared → Prop} {s : Shared} {h₀ h h' : Heap} {L a : Addr} {env : Env} {cl : List (Str × Addr)} {l : List (Str × Value)} {lc : List (Str × Option Value)} {news : List (Addr × Obj)}

/-- an object of the ledger turned, by where it lies -/
theorem St.upd' {pre post : List (Addr × Obj)} {d : Addr} {o o' : Obj} (S : St w h₀ L cl l lc (pre ++ (d, o) :: post) h) (hd : ∀ v, o.data ≠ .cell v) (hs : Heap.SameBut d h h') (h2 : h'.get? d = some o') :
    St w h₀ L cl l lc (pre ++ (d, o') :: post) h' := S.upd hs h2 hd

/-- list.append on a list of the ledger -/
theorem rApp {pre post : List (Addr × Obj)} {d : Addr} {arr : List Value} {k : Nat} {x : Value} {Q : Value → Shared → Prop} (S : St w h₀ L cl l lc (pre ++ (d, lstO arr k) :: post) s.heap) (hsz : arr.length ≤ sizeLine)
    (h : ∀ h' k', St w h₀ L cl l lc (pre ++ (d, lstO (arr ++ [x]) k') :: post) h' → Q .none { s with heap := h' }) :
    wpAny (model prog w) A (call (.builtin "list.append") [.ref d, x]) Q E s := by
  have hl : s.heap.get? d = some (lstO arr k) := S.new (by simp)
  have hL : s.heap.IsList d arr.toArray := ⟨_, hl, rfl, k, rfl⟩
  refine wpAny_call_entry slot_list_append hL.typeIs entry_list_append ?_ (args_list_append _ _)
  show wpAny _ _ (updateSeq d (·.push x) >>= fun _ => ret .none) _ _ s
  refine wpAny_bind ?_
  refine wpAny_updateSeq hl rfl (wpAny_pure ⟨.none, rfl, h _ (if (arr.toArray.push x).size == arr.toArray.size then k else k + 1) (S.upd' (fun v e => nomatch e) (Heap.SameBut.update ..) ?_)⟩) (by simpa using hsz)
  rw [Heap.get?_update_self _ hl rfl]
  simp [Obj.mapSeq]

/-- into a comprehension: the outer frame becomes an object of the ledger -/
theorem St.into {C D : Addr} {od : Obj} {m : Str → Option Value} (S : St w h₀ L cl l lc ((D, od) :: news) h) (hC : h.get? C = none) (hLe : L ≤ C) (hn : h'.Ns C m) (hs : ∀ b o, h.get? b = some o → h'.get? b = some o) :
    ∃ oL, h.get? L = some oL ∧ (∃ es n, oL.data = .dict es n) ∧ St w h₀ C cl [] lc ((D, od) :: (L, oL) :: news) h' := by
  obtain ⟨oL, es, n, hL, hLd⟩ := S.here
  have S' := S.keeps hs
  obtain ⟨⟨g, m0, F, G, W, hm⟩, Z, LZ, N, Ce, ND⟩ := S'
  have neC : ∀ b o, h.get? b = some o → b ≠ C := fun b o e q => by rw [q, hC] at e; cases e
  have C0 : h₀.get? C = none := by
    cases q : h₀.get? C with
    | none => rfl
    | some o => exact absurd rfl (neC _ _ (S.fz _ _ q))
  refine ⟨oL, hL, ⟨es, n, hLd⟩, ⟨g, m, ⟨hn, stays_trans G Z, Nat.le_trans F.above hLe⟩, G, W, fun x v e => nomatch e⟩, Z, C0, fun p hp => ?_, fun x v e => ?_, ?_⟩
  · rcases List.mem_cons.mp hp with rfl | hp
    · have := N _ (.head _); exact ⟨this.1, neC _ _ (S.nw _ (.head _)).1, this.2.2⟩
    · rcases List.mem_cons.mp hp with rfl | hp
      · exact ⟨hs _ _ hL, neC _ _ hL, LZ⟩
      · have := N _ (.tail _ hp); exact ⟨this.1, neC _ _ (S.nw _ (.tail _ hp)).1, this.2.2⟩
  · obtain ⟨c, o, a1, a2, a3, a4, a5⟩ := S.ce x v e
    exact ⟨c, o, a1, hs _ _ a2, a3, neC _ _ a2, a5⟩
  · have h1 := S.nd
    rw [List.map_cons, List.nodup_cons] at h1
    show (D :: L :: news.map (·.1)).Nodup
    refine List.nodup_cons.mpr ⟨fun hm => ?_, List.nodup_cons.mpr ⟨fun hm => ?_, h1.2⟩⟩
    · rcases List.mem_cons.mp hm with e | hm
      · exact (S.nw _ (.head _)).2.1 e
      · exact h1.1 hm
    · obtain ⟨p, hp, e⟩ := List.mem_map.mp hm
      exact (S.nw p (.tail _ hp)).2.1 e
/-- out of a comprehension: its frame becomes an object of the ledger -/
theorem St.outof {h₁ h₀' : Heap} {lo l1 : List (Str × Value)} {lc1 : List (Str × Option Value)} {C D : Addr} {od oL : Obj} {news1 : List (Addr × Obj)} (S : St w h₀ L cl l lc news1 h₁) (hL : h₁.get? L = some oL) (k : h₀.StaysIn h₀')
    (S' : St w h₀' C cl l1 lc1 ((D, od) :: (L, oL) :: news) h) : ∃ oC m, h.Ns C m ∧ St w h₀' L cl l lc1 ((C, oC) :: (D, od) :: news) h := by
  obtain ⟨oC, es, n, hC, hCd⟩ := S'.here
  obtain ⟨g, m0, F, G, W, hm⟩ := S.fr
  obtain ⟨g1, m1, F1, _, _, _⟩ := S'.fr
  have hL' := S'.nw (L, oL) (.tail _ (.head _))
  have nd := S'.nd
  rw [List.map_cons, List.map_cons, List.nodup_cons, List.nodup_cons] at nd
  obtain ⟨n1, n2, n3⟩ := nd
  refine ⟨oC, m1, F1.ns, ⟨g, m0, ⟨F.ns.at' fun o e => ?_, stays_trans (stays_trans G k) S'.fz, F.above⟩, stays_trans G k, W, hm⟩, S'.fz, hL'.2.2, fun p hp => ?_, fun x v e => ?_, ?_⟩
  · rw [hL] at e; cases e; exact hL'.1
  · rcases List.mem_cons.mp hp with rfl | hp
    · exact ⟨hC, fun q => hL'.2.1 q.symm, S'.lz⟩
    · rcases List.mem_cons.mp hp with rfl | hp
      · have := S'.nw _ (.head _)
        exact ⟨this.1, fun q => n1 (by rw [show D = L from q]; exact .head _), this.2.2⟩
      · have := S'.nw p (.tail _ (.tail _ hp))
        exact ⟨this.1, fun q => n2 (q ▸ (List.mem_map_of_mem (f := (·.1)) hp : p.1 ∈ news.map (·.1))), this.2.2⟩
  · obtain ⟨c, o, a1, a2, a3, a4, a5⟩ := S'.ce x v e
    refine ⟨c, o, a1, a2, a3, fun q => ?_, a5⟩
    obtain ⟨oL', es', n', hL2, hLd⟩ := S.here
    have e1 := hL'.1
    rw [← q, a2] at e1
    rw [hL] at hL2; cases hL2
    cases e1; rw [a3] at hLd; cases hLd
  · show (C :: D :: news.map (·.1)).Nodup
    refine List.nodup_cons.mpr ⟨fun hm => ?_, List.nodup_cons.mpr ⟨fun hm => n1 (.tail _ hm), n3⟩⟩
    rcases List.mem_cons.mp hm with e | hm
    · exact (S'.nw _ (.head _)).2.1 e.symm
    · obtain ⟨p, hp, e⟩ := List.mem_map.mp hm
      exact (S'.nw p (.tail _ (.tail _ hp))).2.1 e

/-- what stands behind a comprehension's element -/
inductive Elt (w : World) (s : Shared) (h₀ : Heap) (C : Addr) (cl : List (Str × Addr)) (x : Str) (v : Value) (J : Heap → List (Str × Option Value) → List (Addr × Obj) → Prop) (I : Addr) (o : Obj) (D : Addr) (vs : List Value) (k : Nat) (L : Addr) (oL : Obj) (s₃ : Shared) : Prop
  | mk (h₀' : Heap) (lc' : List (Str × Option Value)) (news' : List (Addr × Obj)) (h' : Heap) (tk' : Nat) : s₃ = { s with heap := h', toks := tk' } → h₀.StaysIn h₀' → J h₀' lc' news' → St w h₀' C cl [(x, v)] lc' ((I, o) :: (D, lstO vs k) :: (L, oL) :: news') h' → Elt w s h₀ C cl x v J I o D vs k L oL s₃
/-- the iterator and the outer frame -/
noncomputable def Led (o oL : Obj) : Prop := (∃ vs, o.data = .fields vs) ∧ ∃ es n, oL.data = .dict es n
/-- a comprehension over a walk -/
theorem compW {elt iter : Expr} {x : Str} {px : Pos} {scope : Scope} {cl' : List (Str × Addr)} {pos : Pos} {use : Option (Value → Sem Unit)} {Q : Value → Shared → Prop} {I : Addr} {fp : List Addr} {n : Nat} {P : Nat → Value → Prop} {It : Nat → Heap → Prop}
    (W : Walks prog w A I fp [I] n P It) (ob : Addr → Obj) (hit : ∀ i h, It i h → ∃ o, h.get? I = some o ∧ ∃ vs, o.data = .fields vs) (hsz : n ≤ sizeLine)
    (J : Nat → Heap → List (Str × Option Value) → List (Addr × Obj) → List Value → Prop)
    (hfp : ∀ i h₀ C cl l lc news vs D oD oL h, J i h₀ lc news vs → St w h₀ C cl l lc ((D, oD) :: (L, oL) :: news) h → ∀ b ∈ fp, b ≠ I → h.get? b = some (ob b))
    (hcell : ∀ y ∈ scope.names, y.2 ≠ .cell) (hkind : scope.kind = .function) (hx : scope.names.lookup x = some .local)
    (hgl : env.globals = mainGlobals) (hbi : env.builtins = builtinsNs)
    {o : Obj} (S : St w h₀ L cl l lc ((I, o) :: news) s.heap) (hI : It 0 s.heap)  (h0 : J 0 h₀ lc news [])
    (turn : ∀ i v h₀ lc news h tk o C D oL k vs, i < n → Led o oL → P i v → J i h₀ lc news vs → St w h₀ C cl [(x, v)] lc ((I, o) :: (D, lstO vs k) :: (L, oL) :: news) h →
      wpAny (model prog w) A (eval elt (compEnvC scope cl' C env)) (fun y s₃ => Elt w s h₀ C cl x v (fun a₁ b₁ c₁ => J (i + 1) a₁ b₁ c₁ (vs ++ [y])) I o D vs k L oL s₃)
        (notedBy (model prog w) A (compEnvC scope cl' C env) fun e s' => compPost (model prog w) A E use Q (.ref D) C (.error e) s') { s with heap := h, toks := tk })
    (done : ∀ h₀' lc' news' h tk C D oC k vs m, J n h₀' lc' news' vs → vs.length = n → h₀.StaysIn h₀' → St w h₀' L cl l lc' ((C, oC) :: (D, lstO vs k) :: news') h → h.Ns C m →
      compPost (model prog w) A E use Q (.ref D) C (.ok .next) { s with heap := h, toks := tk }) :
    wpAny (model prog w) A (newList []) (fun acc s₃ => wpAny (model prog w) A (newFunctionEnv scope env.globals cl' [] env.qual none .none (some env)) (fun cenv s₄ =>
      codeAny (model prog w) A (.compStart (.ListComp elt [⟨.Name x px, iter, [], 0⟩] scope pos) 0 (.ref I) acc { cenv with scope := relabel scope env }) (compPost (model prog w) A E use Q acc cenv.locals) s₄) E s₃) E s := by
  refine wpAny_newObj_type (wpAny_newFunctionEnv hcell (by intro y hy; simp at hy) (fun h₁ hns₁ hsb₁ => ?_) hkind)
  dsimp only at hns₁ hsb₁ ⊢
  have hI1 : ∃ oI, s.heap.get? I = some oI := ⟨o, S.new (.head _)⟩
  have S1 := S.push { cls := .type "list", dict := none, data := .seq ([] : List Value).toArray } rfl
  have S1 := S1.swap
  generalize hH2 : s.heap.push { cls := .type "list", dict := none, data := .seq ([] : List Value).toArray } = H2 at hns₁ hsb₁ S1 ⊢
  have up2 : ∀ b o, s.heap.get? b = some o → H2.get? b = some o := fun b o e => hH2 ▸ Heap.get?_push_of_some _ e
  have up1 : ∀ b o, H2.get? b = some o → h₁.get? b = some o := fun b o e => by
    refine hsb₁.extBut b o (Nat.ne_of_lt (Heap.lt_size e)) (Heap.get?_push_of_some _ e)
  have S2 : St w h₀ L cl l lc ((s.heap.objs.size, lstO [] 0) :: news) H2 := S1.tail
  have hLle : L ≤ H2.objs.size := by obtain ⟨oL, _, _, hL, _⟩ := S1.here; exact Nat.le_of_lt (Heap.lt_size hL)
  have oI := S1.new (.head _)
  -- the iterator aside
  obtain ⟨oL, hL, hLd, S3⟩ := St.into (C := H2.objs.size) (S1 : St w h₀ L cl l lc ((I, o) :: (s.heap.objs.size, lstO [] 0) :: news) H2) (get_size _) hLle hns₁ up1
  have S3 : St w h₀ H2.objs.size cl [] lc ((I, o) :: (s.heap.objs.size, lstO [] 0) :: (L, oL) :: news) h₁ := ⟨S3.fr, S3.fz, S3.lz, fun p hp => S3.nw p (by
      rcases List.mem_cons.mp hp with rfl | hp
      · exact .head _
      · rcases List.mem_cons.mp hp with rfl | hp
        · exact .tail _ (.tail _ (.head _))
        · rcases List.mem_cons.mp hp with rfl | hp
          · exact .tail _ (.head _)
          · exact .tail _ (.tail _ (.tail _ hp))), S3.ce, by
      have := S3.nd
      refine List.Perm.nodup ?_ this
      exact List.Perm.cons _ (List.Perm.swap _ _ _)⟩
  generalize hD : s.heap.objs.size = D at S1 S2 S3 ⊢
  generalize hC : H2.objs.size = C at S3 ⊢
  have it1 : It 0 h₁ := W.frame _ _ _ hI fun b _ o e => up1 b o (up2 b o e)
  clear hns₁ hsb₁
  have fin : ∀ h₀' lc' l1 news' h tk k vs, J n h₀' lc' news' vs → vs.length = n → h₀.StaysIn h₀' → St w h₀' C cl l1 lc' ((D, lstO vs k) :: (L, oL) :: news') h → compPost (model prog w) A E use Q (.ref D) C (.ok .next) { s with heap := h, toks := tk } := by
    intro h₀' lc' l1 news' h tk k vs hJ hlen hk S'
    obtain ⟨oC, m, hn, S''⟩ := St.outof (lo := l) S1 hL hk S'
    exact done h₀' lc' news' h tk C D oC k vs m hJ hlen hk S'' hn
  have loop : ∀ s₃ : Shared, s₃ = { s with heap := h₁, toks := s.toks + ([] : List (Str × Value)).length } →
      codeAny (model prog w) A (.compLoop (.ListComp elt [⟨.Name x px, iter, [], 0⟩] scope pos) 0 (.ref I) (.ref D) (compEnvC scope cl' C env)) (compPost (model prog w) A E use Q (.ref D) C) s₃ := by
    rintro s₃ rfl
    refine codeAny_compLoop_list (fun k' s' => ∃ i h₀' l1 lc' news' h tk o k vs, s' = { s with heap := h, toks := tk } ∧ h₀.StaysIn h₀' ∧ J i h₀' lc' news' vs ∧ vs.length = i ∧ St w h₀' C cl l1 lc' ((I, o) :: (D, lstO vs k) :: (L, oL) :: news') h ∧ It i h ∧ i ≤ n ∧ k' = n + 1 - i) ?_ (n + 1)
      ⟨0, h₀, [], lc, news, h₁, _, o, 0, [], rfl, stays_refl, h0, rfl, S3, it1, Nat.zero_le _, rfl⟩
    rintro k' s' ⟨i, h₀', l1, lc', news', h, tk, o, k, vs, rfl, hk, hJ, hlen, S', hI', hi, rfl⟩
    obtain ⟨o1, e1, hf1⟩ := hit _ _ hI'
    have hc1 : ∀ v, o1.data ≠ .cell v := fun v q => by obtain ⟨_, e⟩ := hf1; rw [e] at q; cases q
    have : o1 = o := by have := S'.new (.head _); rw [e1] at this; cases this; rfl
    subst this
    by_cases hlt : i < n
    · refine W.item i _ _ _ hlt hI' fun v h₂ tk₂ hP hI₂ hk₂ => ?_
      obtain ⟨o2, e2, hc2⟩ := hit _ _ hI₂
      have S₂ := S'.head hc1 hk₂ e2
      refine wpAny_assign_Name ?_
      refine sL S₂ (fun h₃ S₃ => ?_) ⟨rfl, hgl, hbi, by simp [compEnvC, relabel, hkind]⟩ (lookup_relabel_local hx)
      have S₃' : St w h₀' C cl [(x, v)] lc' ((I, o2) :: (D, lstO vs k) :: (L, oL) :: news') h₃ := S₃.names ⟨by simp, trivial⟩
      refine wpAny_mono (turn i v h₀' lc' news' h₃ _ o2 C D oL k vs hlt ⟨hc2, hLd⟩ hP hJ S₃') (fun y s₄ h₄ => ?_) fun _ _ e => e
      obtain ⟨h₀'', lc'', news'', h₄, tk₄, rfl, hk'', hJ'', S₄⟩ := h₄
      refine rApp (pre := [(I, o2)]) S₄ (by rw [hlen]; exact Nat.le_of_lt (Nat.lt_of_lt_of_le hlt hsz)) fun h₅ k₅ S₅ => ?_
      refine ⟨n + 1 - (i + 1), by (first | exact omq13 _ _ hlt | omega), i + 1, h₀'', _, lc'', news'', h₅, tk₄, o2, k₅, vs ++ [y], rfl, stays_trans hk hk'', hJ'', by simp [hlen], S₅, W.frame _ _ _ hI₂ fun b hb xx ex => ?_, hlt, rfl⟩
      by_cases hbI : b = I
      · subst hbI; rw [e2] at ex; cases ex; exact S₅.new (.head _)
      · have q1 := hfp _ _ _ _ _ _ _ _ _ _ _ _ hJ S₂.tail b hb hbI
        rw [q1] at ex; cases ex
        exact hfp _ _ _ _ _ _ _ _ _ _ _ _ hJ'' S₅.tail b hb hbI
    · have hin : i = n := by (first | exact omq14 _ _ hi hlt | omega)
      subst hin
      refine W.done _ _ _ hI' fun h₂ tk₂ hk₂ => ?_
      exact fin h₀' lc' l1 news' h₂ tk₂ k vs hJ hlen hk (S'.but hc1 hk₂)
  exact codeAny_compStart_list (loop _ rfl) (W.self 0 _ _ _ it1 (loop _ rfl))

theorem fin0 {h₀' : Heap} {lc' : List (Str × Option Value)} {news' : List (Addr × Obj)} {C D : Addr} {oC : Obj} {vs : List Value} {k tk : Nat} {m : Str → Option Value} {Q : Value → Shared → Prop}
    (S : St w h₀' L cl l lc' ((C, oC) :: (D, lstO vs k) :: news') h) (hn : h.Ns C m) (hq : ∀ h', St w h₀' L cl l lc' ((D, lstO vs k) :: news') h' → Q (.ref D) { s with heap := h', toks := tk }) :
    compPost (model prog w) A E none Q (.ref D) C (.ok .next) { s with heap := h, toks := tk } := by
  refine ⟨m, hn, fun h' hs => hq h' (S.but (fun v e => ?_) fun b x hb e => (hs.2 b (by simpa using hb)).trans e)⟩
  obtain ⟨o, es, ep, e1, e2, _⟩ := hn
  rw [S.new (.head _)] at e1; cases e1; rw [e] at e2; cases e2
theorem fin1 {h₀' : Heap} {lc' : List (Str × Option Value)} {news' : List (Addr × Obj)} {C D : Addr} {oC : Obj} {vs : List Value} {k tk : Nat} {m : Str → Option Value} {y : Str} {py : Pos} {Q : Value → Shared → Prop}
    (S : St w h₀' L cl l lc' ((C, oC) :: (D, lstO vs k) :: news') h) (hn : h.Ns C m) (he : Env0 env L) (hy : env.kindOf y = some .local)
    (hq : ∀ h', St w h₀' L cl ((y, .ref D) :: l) lc' ((D, lstO vs k) :: news') h' → Q .none { s with heap := h', toks := tk + 1 }) :
    compPost (model prog w) A E (some (assign (.Name y py) env)) Q (.ref D) C (.ok .next) { s with heap := h, toks := tk } := by
  show wpAny _ A (assign (.Name y py) env (.ref D)) _ _ _
  refine wpAny_assign_Name (sL S (fun h₁ S₁ => ?_) he hy)
  have hn1 : h₁.Ns C m := hn.at' fun o e => by
    have e1 := S.new (.head _)
    rw [e] at e1; cases e1; exact S₁.new (.head _)
  refine ⟨m, hn1, fun h' hs => hq h' (S₁.but (fun v e => ?_) fun b x hb e => (hs.2 b (by simpa using hb)).trans e)⟩
  obtain ⟨o, es, ep, e1, e2, _⟩ := hn1
  rw [S₁.new (.head _)] at e1; cases e1; rw [e] at e2; cases e2

noncomputable abbrev LcGoal (prog : Program) (w : World) (A : Around) (E : Value → Shared → Prop) (elt iter : Expr) (x : Str) (px : Pos) (scope : Scope) (pos : Pos) (env : Env) (cl' : List (Str × Addr)) (use : Option (Value → Sem Unit)) (Q : Value → Shared → Prop) (it : Value) (s : Shared) : Prop :=
  wpAny (model prog w) A (newList []) (fun acc s₃ => wpAny (model prog w) A (newFunctionEnv scope env.globals cl' [] env.qual none .none (some env)) (fun cenv s₄ =>
      codeAny (model prog w) A (.compStart (.ListComp elt [⟨.Name x px, iter, [], 0⟩] scope pos) 0 it acc { cenv with scope := relabel scope env }) (compPost (model prog w) A E use Q acc cenv.locals) s₄) E s₃) E s

theorem rLC {elt iter : Expr} {x : Str} {px : Pos} {scope : Scope} {pos : Pos} (cl' : List (Str × Addr)) {Q : Value → Shared → Prop}
    (h : wpAny (model prog w) A (eval iter env) (fun xv s₁ => wpAny (model prog w) A (pyIter xv) (fun it s₂ => LcGoal prog w A E elt iter x px scope pos env cl' none Q it s₂) E s₁) E s)
    (hclos : closureFor scope env = pure cl' := by rfl) (hkind : scope.kind = .function := by rfl) (hnames : ∀ x ∈ scope.names, x.2 = .local → scope.names.lookup x.1 = some .local := by decide) (hs : ∀ x, foldedSetIterable iter env x = pure x := by intro _; rfl) :
    wpAny (model prog w) A (eval (.ListComp elt [⟨.Name x px, iter, [], 0⟩] scope pos) env) Q E s := by
  rw [eval_ListComp]
  exact wpAny_comprehension_free (use := none) rfl hs hclos hkind hnames h
theorem rLCA {elt iter : Expr} {x y : Str} {px py : Pos} {scope : Scope} {pos spos : Pos} (cl' : List (Str × Addr)) {Q : Flow → Shared → Prop}
    (h : wpAny (model prog w) A (eval iter env) (fun xv s₁ => wpAny (model prog w) A (pyIter xv) (fun it s₂ => LcGoal prog w A E elt iter x px scope pos env cl' (some (assign (.Name y py) env)) (fun _ s' => Q .next s') it s₂) E s₁) E s)
    (hsw : swapsWith (.ListComp elt [⟨.Name x px, iter, [], 0⟩] scope pos) (some (.Name y py)) spos.line env = pure true := by rfl)
    (hclos : closureFor scope env = pure cl' := by rfl) (hkind : scope.kind = .function := by rfl) (hnames : ∀ x ∈ scope.names, x.2 = .local → scope.names.lookup x.1 = some .local := by decide) (hs : ∀ x, foldedSetIterable iter env x = pure x := by intro _; rfl) :
    wpAny (model prog w) A (exec (.Assign [.Name y py] (.ListComp elt [⟨.Name x px, iter, [], 0⟩] scope pos) spos) env) Q E s := by
  have made := fun p => wpAny_comprehension_free (pos := p) (E := E) (s := s) (use := some (assign (.Name y py) env)) (Q := fun _ s' => Q .next s') rfl hs hclos hkind hnames h
  rw [exec_Assign_Name_used (hs := hsw)]
  exact wpAny_bind (wpAny_standAt (wpAny_bind (wpAny_bind (wpAny_mono (made _) (fun _ _ q => wpAny_pure (wpAny_pure q)) fun _ _ e => e))))

/-- over a frozen list -/
theorem lcList {elt iter : Expr} {x : Str} {px : Pos} {scope : Scope} {cl' : List (Str × Addr)} {pos : Pos} {use : Option (Value → Sem Unit)} {Q : Value → Shared → Prop} {la : Addr} {arr : List Value} {k : Nat}
    (J : Nat → Heap → List (Str × Option Value) → List (Addr × Obj) → List Value → Prop)
    (S : St w h₀ L cl l lc news s.heap) (hh : A.handled = none) (hl : h₀.get? la = some (lstO arr k)) (hsz : arr.length ≤ sizeLine) (h0 : J 0 h₀ lc news [])
    (turn : ∀ i v h₀' lc news h tk I o C D oL k vs, Led o oL → arr[i]? = some v → h₀.StaysIn h₀' → J i h₀' lc news vs → St w h₀' C cl [(x, v)] lc ((I, o) :: (D, lstO vs k) :: (L, oL) :: news) h →
      wpAny (model prog w) A (eval elt (compEnvC scope cl' C env)) (fun y s₃ => Elt w s h₀' C cl x v (fun a₁ b₁ c₁ => J (i + 1) a₁ b₁ c₁ (vs ++ [y])) I o D vs k L oL s₃)
        (notedBy (model prog w) A (compEnvC scope cl' C env) fun e s' => compPost (model prog w) A E use Q (.ref D) C (.error e) s') { s with heap := h, toks := tk })
    (done : ∀ h₀' lc' news' h tk C D oC k vs m, J arr.length h₀' lc' news' vs → vs.length = arr.length → h₀.StaysIn h₀' → St w h₀' L cl l lc' ((C, oC) :: (D, lstO vs k) :: news') h → h.Ns C m →
      compPost (model prog w) A E use Q (.ref D) C (.ok .next) { s with heap := h, toks := tk })
    (hcell : ∀ y ∈ scope.names, y.2 ≠ .cell := by decide) (hkind : scope.kind = .function := by rfl) (hx : scope.names.lookup x = some .local := by rfl)
    (hgl : env.globals = mainGlobals := by rfl) (hbi : env.builtins = builtinsNs := by rfl) :
    wpAny (model prog w) A (pyIter (.ref la)) (fun it s₂ => LcGoal prog w A E elt iter x px scope pos env cl' use Q it s₂) E s := by
  have hl' := S.base hl
  have hL : s.heap.IsList la arr.toArray := ⟨_, hl', rfl, k, rfl⟩
  refine wpAny_pyIter_list hL ?_
  have ne : la ≠ s.heap.objs.size := Nat.ne_of_lt (Heap.lt_size hl')
  have W := Walks.list (prog := prog) (w := w) hh s.heap.objs.size la ne arr.toArray
  have sz : arr.toArray.size = arr.length := by simp
  rw [sz] at W
  have h2 := compW (E := E) (elt := elt) (iter := iter) (px := px) (pos := pos) (use := use) (Q := Q) (env := env) (cl' := cl') (l := l) (s := { s with heap := s.heap.push { cls := .type "list_iterator", data := .fields #[.ref la, .int 0 0] } }) W (fun b => if b = la then lstO arr k else default) (fun i h hI => ?_) hsz (fun i h₀' lc news vs => J i h₀' lc news vs ∧ h₀.StaysIn h₀') (fun i h₀ C cl l lc news vs D oD oL h hJ S b hb hne => ?_) hcell hkind hx hgl hbi (S.push _ rfl) ?_ ⟨h0, stays_refl⟩ (fun i v h₀' lc news h tk o C D oL k vs hi hled hP hJ S => ?_) (fun h₀' lc' news' h tk C D oC k vs m hJ => done h₀' lc' news' h tk C D oC k vs m hJ.1)
  · exact h2
  · obtain ⟨o, ho, hc, hd⟩ := hI.1
    exact ⟨o, ho, _, hd⟩
  · rcases List.mem_cons.mp hb with rfl | hb
    · exact absurd rfl hne
    · rw [List.mem_singleton.mp hb, if_pos rfl]; exact S.base (hJ.2 _ _ hl)
  · exact ⟨⟨_, Heap.get?_push_size _ rfl, rfl, by first | rfl | exact ⟨_, rfl⟩ | simp⟩, ⟨_, Heap.get?_push_of_some _ hl', rfl, k, rfl⟩⟩
  · refine wpAny_mono (turn i v h₀' lc news h tk _ o C D oL k vs hled (by simpa using hP) hJ.2 hJ.1 S) (fun y s₃ h₃ => ?_) fun _ _ e => e
    obtain ⟨h₀'', lc', news', h', tk', e1, e2, e3, e4⟩ := h₃
    exact ⟨h₀'', lc', news', h', tk', e1, e2, ⟨e3, stays_trans hJ.2 e2⟩, e4⟩
/-- over range(a, b) -/
theorem lcRange {elt iter : Expr} {x : Str} {px : Pos} {scope : Scope} {cl' : List (Str × Addr)} {pos : Pos} {use : Option (Value → Sem Unit)} {Q : Value → Shared → Prop} {r : Addr} {a b : Int} {t u v : Tok} {n : Nat}
    (J : Nat → Heap → List (Str × Option Value) → List (Addr × Obj) → List Value → Prop)
    (S : St w h₀ L cl l lc news s.heap) (hh : A.handled = none) (hr : IsRange s.heap r a b 1 t u v) (hn : Builtin.Range.rangeSize a b 1 = n) (hab : a.natAbs < 2 ^ 62 ∧ b.natAbs < 2 ^ 62) (hsz : n ≤ sizeLine) (h0 : J 0 h₀ lc news [])
    (turn : ∀ i t h₀' lc news h tk I o C D oL k vs, Led o oL → i < n → h₀.StaysIn h₀' → J i h₀' lc news vs → St w h₀' C cl [(x, .int (a + i) t)] lc ((I, o) :: (D, lstO vs k) :: (L, oL) :: news) h →
      wpAny (model prog w) A (eval elt (compEnvC scope cl' C env)) (fun y s₃ => Elt w s h₀' C cl x (.int (a + i) t) (fun a₁ b₁ c₁ => J (i + 1) a₁ b₁ c₁ (vs ++ [y])) I o D vs k L oL s₃)
        (notedBy (model prog w) A (compEnvC scope cl' C env) fun e s' => compPost (model prog w) A E use Q (.ref D) C (.error e) s') { s with heap := h, toks := tk })
    (done : ∀ h₀' lc' news' h tk C D oC k vs m, J n h₀' lc' news' vs → vs.length = n → h₀.StaysIn h₀' → St w h₀' L cl l lc' ((C, oC) :: (D, lstO vs k) :: news') h → h.Ns C m →
      compPost (model prog w) A E use Q (.ref D) C (.ok .next) { s with heap := h, toks := tk })
    (hcell : ∀ y ∈ scope.names, y.2 ≠ .cell := by decide) (hkind : scope.kind = .function := by rfl) (hx : scope.names.lookup x = some .local := by rfl)
    (hgl : env.globals = mainGlobals := by rfl) (hbi : env.builtins = builtinsNs := by rfl) :
    wpAny (model prog w) A (pyIter (.ref r)) (fun it s₂ => LcGoal prog w A E elt iter x px scope pos env cl' use Q it s₂) E s := by
  refine wpAny_pyIter_range hr (small_one (by (first | exact omq20 _ _ hab | omega)) (by (first | exact omq21 _ _ hab | omega)) (by (first | exact omq22 _ _ hab | omega)) (by (first | exact omq23 _ _ hab | omega))) ?_
  rw [hn]
  have h2 := compW (E := E) (elt := elt) (iter := iter) (px := px) (pos := pos) (use := use) (Q := Q) (env := env) (cl' := cl') (l := l) (s := { s with heap := s.heap.push { cls := .type "range_iterator", data := .fields #[rawInt a, rawInt n, rawInt 1] } }) (Walks.range (prog := prog) (w := w) hh _ a 1 n) (fun _ => default) (fun i h hI => ⟨_, hI, _, rfl⟩) hsz (fun i h₀' lc news vs => J i h₀' lc news vs ∧ h₀.StaysIn h₀') (fun i h₀ C cl l lc news vs D oD oL h hJ S b hb hne => absurd (List.mem_singleton.mp hb) hne) hcell hkind hx hgl hbi (S.push _ rfl) ?_ ⟨h0, stays_refl⟩ (fun i v h₀' lc news h tk o C D oL k vs hi hled hP hJ S => ?_) (fun h₀' lc' news' h tk C D oC k vs m hJ => done h₀' lc' news' h tk C D oC k vs m hJ.1)
  · exact h2
  · show IsRangeIter _ _ _ _ _
    unfold IsRangeIter
    rw [Heap.get?_push_size _ rfl]
    simp
  · obtain ⟨t', rfl⟩ := hP
    have e : a + (i : Int) * 1 = a + i := by (first | exact omq24 _ _ | omega)
    rw [e] at S
    refine wpAny_mono (turn i t' h₀' lc news h tk _ o C D oL k vs hled hi hJ.2 hJ.1 S) (fun y s₃ h₃ => ?_) fun _ _ e => e
    obtain ⟨h₀'', lc', news', h', tk', e1, e2, e3, e4⟩ := h₃
    exact ⟨h₀'', lc', news', h', tk', e1, e2, ⟨e3, stays_trans hJ.2 e2⟩, by rw [e]; exact e4⟩
end
end Mine

/-! QExc -/
namespace Mine
theorem warmE : (PySem.Challenge.rw_qd0126_01.Holds → (wr.heap_1 = wr.heap_1) → True) := by
  k_fill
  intro _ _; trivial
noncomputable def bm59 : List Value := [.ref 46, .type "Exception", .type "BaseException", .type "object"]
noncomputable abbrev XN := "Exception.__new__"
noncomputable abbrev XI := "Exception.__init__"
noncomputable abbrev O59 : Obj := excClassObj "TreeFault" "TreeFault" 59 58 [.ref 46] bm59 true [] [] false none none (some (.ref 50)) none (some (.str "TreeFault" 236)) (some (.str "TreeFault" 244)) (some (.bool true)) "Exception.__new__"
noncomputable abbrev excObj (t : Addr) : Obj := { cls := .ref 59, data := .fields #[.ref t, .none, .none, .none, .bool false, .none] }
section
variable {prog : Program} {w : World} {A : Around} {E : Value → Shared → Prop} {h : Heap} {g : Array GenState} {d : Drawn} {t : Nat} {os : OsState} {rest : List Value}
theorem get59 {w : World} {h : Heap} (K : (wr.heap_1 w.params).In h) : h.get? 59 = some O59 := K 59 _ rfl
/-- a new one, its arguments in a tuple -/
theorem born59 {R : Result → Shared → Prop} (K : (wr.heap_1 w.params).In h) (hz : rest.length ≤ sizeLine)
    (hq : R (.ok (.ret (.ref (h.objs.size + 1)))) ⟨(h.push { cls := .type "tuple", data := .seq rest.toArray }).push (excObj h.objs.size), g, d, t, os⟩) :
    codeAny (model prog w) A (.builtin XN ⟨.ref 59 :: rest, []⟩) R ⟨h, g, d, t, os⟩ := by
  have F := PySem.F.excBase_Exception
  have l1 : Looks (model prog w) h (isType (.ref 59)) true := Looks.of_peek K rfl
  have l2 : Looks (model prog w) h (isSubtype (.ref 59) (.type "Exception")) true := looks_mroIn K rfl
  have l3 : Looks (model prog w) h (Bind.madeHere "BaseException.__new__" (.ref 59)) () := Looks.of_peek K (by kernel_rfl)
  have l4 : Looks (model prog w) h (isSubtype (.ref 59) (.type "AttributeError")) false := looks_mroIn K rfl
  have l5 : Looks (model prog w) h (isSubtype (.ref 59) (.type "NameError")) false := looks_mroIn K rfl
  have c : (h.push { cls := .type "tuple", data := .seq rest.toArray }).get? 59 = some O59 := Heap.get?_push_of_some _ (get59 K)
  refine PyProof.Rows.codeAny_builtin_at F.entry ?_
  unfold Builtin.«BaseException.__new__»
  refine PyProof.Rows.wpAt_bind (PyProof.Rows.wpAt_owner rfl (by decide +kernel) (PyProof.Rows.wpAt_of_any ?_))
  rw [F.owner]
  repeat (first | ((with_reducible show wpAny _ _ (newTuple _) _ _ _); refine wpAny_newObj_type ?_ (by show rest.toArray.size ≤ sizeLine; rw [List.size_toArray]; exact hz)) | lk)
  refine nd_load (Heap.get?_push_of_some _ c) ?_
  repeat lk
  show R _ _
  rw [Heap.size_push]
  exact hq

/-- the class called: born, then its kin's own __init__ (36) -/
theorem type59 {Q : Fin → Shared → Prop} (K : (wr.heap_1 w.params).In h) (hz : rest.length ≤ sizeLine)
    (hq : wpAny (model prog w) A (call (.ref 36) (.ref (h.objs.size + 1) :: rest)) (fun v s' => v = .none ∧ Q (.done (.ret (.ref (h.objs.size + 1)))) s') E
      ⟨(h.push { cls := .type "tuple", data := .seq rest.toArray }).push (excObj h.objs.size), g, d, t, os⟩) :
    wpAny (model prog w) A (Builtin.«type.__call__» ⟨.ref 59 :: rest, []⟩) Q E ⟨h, g, d, t, os⟩ := by
  have l1 : Looks (model prog w) h (mroOf (.ref 59)) (.ref 59 :: bm59) := Looks.of_peek K rfl
  have l2 : Looks (model prog w) h (Bind.madeBy (.ref 59)) (some XN) := Looks.of_peek K rfl
  have l3 : Looks (model prog w) h (checkBuiltinCall XN ⟨.ref 59 :: rest, []⟩) () := Looks.of_peek K (by kernel_rfl)
  have I : InstAt ((h.push { cls := .type "tuple", data := .seq rest.toArray }).push (excObj h.objs.size)) (h.objs.size + 1) (excObj h.objs.size) 59 none := ⟨by heap_get, rfl, rfl, trivial⟩
  have K2 := K.keeps (h' := (h.push { cls := .type "tuple", data := .seq rest.toArray }).push (excObj h.objs.size)) fun b o e => Heap.get?_push_of_some _ (Heap.get?_push_of_some _ e)
  have l4 : Looks (model prog w) ((h.push { cls := .type "tuple", data := .seq rest.toArray }).push (excObj h.objs.size)) (isInstance (.ref (h.objs.size + 1)) (.ref 59)) true := I.type.andThen (looks_mroIn K2 rfl)
  unfold Builtin.«type.__call__»
  repeat (first | with_reducible refine wpAny_call ?_ | lk)
  refine codeAny_call_builtin_code (Code.quiet_builtin _ PySem.F.excBase_Exception.quiet) (l3.at (born59 K hz ?_))
  show wpAny _ _ _ _ _ _
  repeat (first | refine special_fn K2 I (f := 36) rfl rfl (wpAny_mono hq (fun v s' z => ?_) fun _ _ e => e) | lk)
  obtain ⟨rfl, z⟩ := z
  repeat lk
  exact z

theorem call59 {s : Shared} {Q : Value → Shared → Prop} (K : (wr.heap_1 w.params).In s.heap)
    (hq : wpAny (model prog w) (A.under (.builtin "type.__call__" ⟨.ref 59 :: rest, []⟩)) (call (.ref 36) (.ref (s.heap.objs.size + 1) :: rest)) (fun v s' => v = .none ∧ Q (.ref (s.heap.objs.size + 1)) s') E
      { s with heap := (s.heap.push { cls := .type "tuple", data := .seq rest.toArray }).push (excObj s.heap.objs.size) }) (hz : rest.length ≤ sizeLine := by size_fits) :
    wpAny (model prog w) A (call (.ref 59) rest) Q E s := by
  have l1 : Looks (model prog w) s.heap (callAny (.ref 59) ⟨rest, []⟩) (.again (.call (.builtin "type.__call__") ⟨.ref 59 :: rest, []⟩)) := Looks.of_peek K (by kernel_rfl)
  have l2 : Looks (model prog w) s.heap (checkBuiltinCall "type.__call__" ⟨.ref 59 :: rest, []⟩) () := Looks.of_peek K (by kernel_rfl)
  exact wpAny_call (codeAny_of_tree (l1.here ⟨rfl, codeAny_call_builtin_at (Code.quiet_builtin _ (by decide +kernel)) entry_typeCall (l2.here (type59 K hz hq))⟩))

/-- Exception.__init__ on one of ours -/
theorem init59 {s : Shared} {e t0 : Addr} {Q : Value → Shared → Prop} (K : (wr.heap_1 w.params).In s.heap) (he : s.heap.get? e = some (excObj t0))
    (hq : Q .none { s with heap := (s.heap.push { cls := .type "tuple", data := .seq rest.toArray }).update e (Obj.mapFields (·.setIfInBounds 0 (.ref s.heap.objs.size))) }) (hz : rest.length ≤ sizeLine := by size_fits) :
    wpAny (model prog w) A (call (.builtin XI) (.ref e :: rest)) Q E s := by
  have F := PySem.F.excBase_Exception
  have I : InstAt s.heap e (excObj t0) 59 none := ⟨he, rfl, rfl, trivial⟩
  have up : Looks (model prog w) s.heap (isInstance (.ref e) (.type "Exception")) true := I.type.andThen (looks_mroIn K rfl)
  have ty : Looks (model prog w) s.heap (typeOf (.ref e)) (.ref 59) := I.type
  have fits : ∀ a b n, Looks (model prog w) s.heap (Bind.check ⟨.positional, "*", "Exception", .self, [⟨"args", .varPos, false⟩]⟩ a b n []) () := fun a b n => Looks.of_pure (check_star_args _ _ _ _ _ _)
  have name : Looks (model prog w) s.heap (typeNameWhole (.ref 59)) "TreeFault" := Looks.of_peek K (by kernel_rfl)
  have he' := Heap.get?_push_of_some { cls := .type "tuple", data := .seq rest.toArray } he
  obtain ⟨h, g, d, t, os⟩ := s
  refine wpAny_call (codeAny_call_builtin F.init.plain F.initEntry ?_)
  simp only [checkBuiltinCall, F.initKind, F.initSplit, F.initRow]
  repeat (first | ((with_reducible show wpAny _ _ (Bind.check _ _ _ _ _) _ _ _); refine Looks.at (fits _ _ _) ?_) | ((with_reducible show wpAny _ _ (newTuple _) _ _ _); refine wpAny_newObj_type ?_ (by show rest.toArray.size ≤ sizeLine; rw [List.size_toArray]; exact hz)) | lk)
  exact wpAny_update' he' (wpAny_letGo (wpAny_pure hq))

/-- a name put into a small namespace -/
theorem putIn {M : Model} {dx : Addr} {mA : Str → Option Value} {ns : List Str} {name : Str} {v : Value} {k : Tok} {Q : Fin → Shared → Prop} (hd : h.Ns1 dx mA) (hw : PySem.Within mA ns) (hz : ns.length ≤ 100)
    (hq : ∀ h' tk, Heap.SameBut dx h h' → h'.Ns1 dx (fun y => if y = name then some v else mA y) → Q (.done (.ret .none)) ⟨h', g, d, tk, os⟩) :
    wpAny M A (Builtin.ObjectAttr.storeInDict dx (.str name k) name v) Q E ⟨h, g, d, t, os⟩ := by
  refine wpAny_bind (wpAny_pure (wpAny_bind (wpAny_nsSet1 hd fun h' hd' hs => ?_)))
  obtain ⟨o, es, n, e1, e2, e3⟩ := hd'.count (PySem.Within.cons name v hw)
  rw [List.length_cons] at e3
  have fit : o.data.pastItsLine = none := by rw [e2]; exact pastItsLine_dict (by rw [sizeLine_eq]; (first | exact omq25 _ _ hz e3 | omega))
  exact wpAny_bind (wpAny_lookBehind e1 fit (wpAny_pure (hq h' _ hs hd')))

/-- a field of an exception of ours, the first one or a later one -/
theorem store59 {x : Addr} {vs : Array Value} {sl : Array (Option Value)} {dct : Option Addr} {name : Str} {v : Value} {Q : Unit → Shared → Prop} (K : (wr.heap_1 w.params).In h)
    (hx : h.get? x = some ⟨.ref 59, dct, .fields vs, sl⟩) (hdct : dct = none ∨ ∃ dx mA ns, dct = some dx ∧ dx ≠ x ∧ h.Ns1 dx mA ∧ PySem.Within mA ns ∧ ns.length ≤ 100)
    (hf : findIn (wr.heap_1 w.params) (.ref 59) name = some none) (hsa : findIn (wr.heap_1 w.params) (.ref 59) "__setattr__" = some (some (.builtin "object.__setattr__")))
    (hq : ∀ h' tk' dx mB, (dct = none ∧ h.get? dx = none ∧ (∀ y, mB y = if y = name then some v else none) ∧ (∀ b o, b ≠ x → h.get? b = some o → h'.get? b = some o) ∧ h'.get? x = some ⟨.ref 59, some dx, .fields vs, sl⟩) ∨
      (dct = some dx ∧ Heap.SameBut dx h h') → h'.Ns1 dx mB → Q () ⟨h', g, d, tk', os⟩) :
    wpAny (model prog w) A (setAttr (.ref x) name v) Q E ⟨h, g, d, t, os⟩ := by
  have SF := PySem.F.store_Exception
  have l0 : Looks (model prog w) h (typeOf (.ref x)) (.ref 59) := (Looks.ld hx).andThen .now
  have l1 : Looks (model prog w) h (specialOf (.ref x) "__setattr__") (some (.builtin "object.__setattr__")) := l0.andThen (looks_findIn K hsa)
  have l2 : Looks (model prog w) h (bindSpecial (.builtin "object.__setattr__") (.ref x)) (.builtin "object.__setattr__", [.ref x]) := Looks.of_pure (SF.slot.bind _)
  have l3 : Looks (model prog w) h (isInstance (.ref x) (.type "object")) true := l0.andThen (looks_mroIn K rfl)
  have l4 : Looks (model prog w) h (Builtin.ObjectAttr.refuseIfOverridden (.ref x) "__setattr__") () := by
    rw [refuse_eq]
    refine l0.andThen (Looks.andThen (Looks.of_peek (r := .ref 59 :: bm59) K rfl) (Looks.of_pure ?_))
    unfold bm59
    rw [refuseLoop_ref, refuseLoop_ref, SF.passes]
  have l5 : Looks (model prog w) h (typeLookup (.ref 59) name) none := looks_findIn K hf
  have l6 := looks_clsIn (M := model prog w) K (C := 59) rfl
  unfold setAttr callSpecial?
  repeat (first | with_reducible refine wpAny_mkText ?_ | with_reducible refine wpAny_call ?_ | lk)
  refine codeAny_call_builtin SF.slot.plain SF.entry (@check_slot (model prog w) _ _ ⟨h, g, d, t + 1, os⟩ "object.__setattr__" "object" "__setattr__" (.ref x) [.str name t, v] [] _ SF.kind SF.split l3 (SF.args _ _ _) ?_)
  show wpAny _ _ (Builtin.«object.__setattr__» ⟨[.ref x, .str name t, v], []⟩) _ _ _
  rw [osa_eq]
  refine wpAny_bind (l4.at (wpAny_bind (l0.at (wpAny_bind (l5.at (wpAny_bind (wpAny_pure ?_)))))))
  rcases hdct with rfl | ⟨dx, mA, ns, rfl, ne, hd, hw, hz⟩
  · have old : ∀ b o, h.get? b = some o → (h.push { cls := .type "dict", data := .dict #[] }).get? b = some o := fun b o e => stays_push _ b o e
    have far : h.objs.size ≠ x := Nat.ne_of_gt (Heap.lt_size hx)
    have s1 := Heap.SameBut.update (h.push { cls := .type "dict", data := .dict #[] }) x fun o => { o with dict := some h.objs.size }
    have here := Heap.get?_update_self (fun o : Obj => { o with dict := some h.objs.size }) (old _ _ hx) rfl
    have bare := (Heap.Ns1.of_empty (Heap.Ns.new h (.type "dict"))).sameBut s1 far
    repeat (first | with_reducible refine nd_load (old _ _ hx) ?_ | lk)
    refine wpAny_update' (old _ _ hx) (wpAny_pure (putIn bare PySem.Within.nil (Nat.zero_le _) fun h' tk hs hd => wpAny_pure (wpAny_pure ?_)))
    refine hq h' tk h.objs.size _ (.inl ⟨rfl, get_size h, fun _ => rfl, fun b o ne e => ?_, (hs.2 x (Ne.symm far)).trans here⟩) hd
    exact (hs.2 b (Nat.ne_of_lt (Heap.lt_size e))).trans ((s1.2 b ne).trans (old b o e))
  · repeat (first | with_reducible refine putIn hd hw hz fun h' tk hs hd' => ?_ | lk)
    exact hq h' tk dx _ (.inr ⟨rfl, hs⟩) hd'

theorem Rm.underT {A : Around} {d u : Nat} {rest : List Value} (r : Rm A (d + 1) (u + 1)) : Rm (A.under (.builtin "type.__call__" ⟨.ref 59 :: rest, []⟩)) d u := by
  have hw : (Code.builtin "type.__call__" ⟨.ref 59 :: rest, []⟩).weight = 1 := by kernel_rfl
  have hu : (Code.builtin "type.__call__" ⟨.ref 59 :: rest, []⟩).cUnits = 1 := by kernel_rfl
  refine ⟨r.hh, ?_, ?_⟩
  · have := r.hd; show A.depth + (Code.builtin "type.__call__" ⟨.ref 59 :: rest, []⟩).weight + d < 990; rw [hw]; (first | exact omq4 _ _ this | omega)
  · have := r.hu; show A.units + (Code.builtin "type.__call__" ⟨.ref 59 :: rest, []⟩).cUnits + u < 9800; rw [hu]; (first | exact omq8 _ _ this | omega)

theorem St.addl {h₀ : Heap} {L : Addr} {cl : List (Str × Addr)} {l : List (Str × Value)} {lc : List (Str × Option Value)} {news : List (Addr × Obj)} {dx : Addr} {od : Obj} (S : St w h₀ L cl l lc news h) (hd : h.get? dx = some od) (n1 : dx ≠ L) (n2 : h₀.get? dx = none) (n3 : dx ∉ news.map (·.1)) :
    St w h₀ L cl l lc ((dx, od) :: news) h :=
  ⟨S.fr, S.fz, S.lz, fun p hp => by
    rcases List.mem_cons.mp hp with rfl | hp
    · exact ⟨hd, n1, n2⟩
    · exact S.nw p hp, S.ce, List.nodup_cons.mpr ⟨n3, S.nd⟩⟩
theorem ns1_obj {a : Addr} {m : Str → Option Value} (x : h.Ns1 a m) : ∃ o es n, h.get? a = some o ∧ o.data = .dict es n := (by obtain ⟨o, es, n, a, b, _⟩ := x; exact ⟨o, es, n, a, b⟩)
end
end Mine

/-! QMemo -/
namespace Mine
section
variable {prog : Program} {w : World} {A : Around} {E : Value → Shared → Prop} {s : Shared} {h₀ h h' : Heap} {L : Addr} {env : Env} {cl : List (Str × Addr)} {l : List (Str × Value)} {lc : List (Str × Option Value)} {news news' : List (Addr × Obj)}

theorem St.perm (S : St w h₀ L cl l lc news h) (p : news.Perm news') : St w h₀ L cl l lc news' h :=
  ⟨S.fr, S.fz, S.lz, fun x hx => S.nw x (p.mem_iff.mpr hx), S.ce, (p.map (·.1)).nodup S.nd⟩
/-- one object of the ledger turned, whatever else is new -/
theorem St.turn {pre post : List (Addr × Obj)} {d : Addr} {o o' : Obj} (S : St w h₀ L cl l lc (pre ++ (d, o) :: post) h) (ho : ∀ v, o.data ≠ .cell v) (k : ∀ b x, b ∉ [d] → h.get? b = some x → h'.get? b = some x) (hI : h'.get? d = some o') :
    St w h₀ L cl l lc (pre ++ (d, o') :: post) h' :=
  ((S.perm List.perm_middle).head ho k hI).perm List.perm_middle.symm
/-- the ledger's objects are no tuples -/
noncomputable def NoTup (news : List (Addr × Obj)) : Prop := ∀ p ∈ news, p.2.cls ≠ .type "tuple" ∨ ∀ vs n, p.2.data ≠ .seq vs n
theorem St.tup {b : Addr} {o : Obj} (S : St w h₀ L cl l lc news h) (nt : NoTup news) (e : h.get? b = some o) (hc : o.cls = .type "tuple") {vs : Array Value} {n : Nat} (hd : o.data = .seq vs n) : (hideAll h (loose L cl lc news)).get? b = some o := by
  refine S.frz e (fun q => ?_) (fun q => ?_) (fun v q => by rw [hd] at q; cases q)
  · obtain ⟨oL, es, m, hL, hLd⟩ := S.here
    rw [q, hL] at e; cases e; rw [hd] at hLd; cases hLd
  · obtain ⟨p, hp, e'⟩ := List.mem_map.mp q
    have := (S.nw p hp).1
    rw [e', e] at this; cases this
    rcases nt p hp with q | q
    · exact q hc
    · exact q _ _ hd

/-- what a memo of the nodes from j on holds -/
noncomputable def MemoO (prog : Program) (w : World) (V : Nat → List Value → Prop) (n : Nat) (h : Heap) (o : Obj) (j : Nat) : Prop :=
  ∃ es ep xs, o.ExactDict ∧ o.data = .dict es ep ∧ es.toList = xs.map (entryOfKey (tupleKind (intKind prog w))) ∧ (∀ x ∈ xs, IsTupleKey (intKind prog w) h x.1 x.2.1) ∧ (xs.map (·.1)).Nodup ∧ xs.length + j ≤ n ∧
    (∀ i, j ≤ i → i < n → ∃ a t m items, atKey xs [((10 + i : Nat) : Int), 0] = some (a, .ref t) ∧ h.get? t = some (tupO items m) ∧ V i items) ∧ (∀ i, i < j → atKey xs [((10 + i : Nat) : Int), 0] = none)

variable {V : Nat → List Value → Prop} {n j i : Nat} {o : Obj} {d : Addr}
theorem MemoO.keep (m : MemoO prog w V n h o j) (k : h.StaysIn h') : MemoO prog w V n h' o j := by
  obtain ⟨es, ep, xs, a1, a2, a3, a4, a5, a6, a7, a8⟩ := m
  refine ⟨es, ep, xs, a1, a2, a3, fun x hx => ?_, a5, a6, fun i h1 h2 => ?_, a8⟩
  · obtain ⟨o, its, m, e, r⟩ := a4 x hx; exact ⟨o, its, m, k _ _ e, r⟩
  · obtain ⟨a, t, m, its, e1, e2, e3⟩ := a7 i h1 h2; exact ⟨a, t, m, its, e1, k _ _ e2, e3⟩
theorem MemoO.dict (m : MemoO prog w V n h o j) : ∃ es ep, o.data = .dict es ep := (by obtain ⟨es, ep, _, _, a, _⟩ := m; exact ⟨es, ep, a⟩)
theorem MemoO.noCell (m : MemoO prog w V n h o j) (v : Option Value) : o.data ≠ .cell v := fun q => by obtain ⟨_, _, e⟩ := m.dict; rw [e] at q; cases q
theorem MemoO.frz (m : MemoO prog w V n h o j) (S : St w h₀ L cl l lc news h') (nt : NoTup news) (k : h.StaysIn h') : MemoO prog w V n (hideAll h' (loose L cl lc news)) o j := by
  obtain ⟨es, ep, xs, a1, a2, a3, a4, a5, a6, a7, a8⟩ := m
  refine ⟨es, ep, xs, a1, a2, a3, fun x hx => ?_, a5, a6, fun i h1 h2 => ?_, a8⟩
  · obtain ⟨o, its, m, e, hc, hd, r⟩ := a4 x hx; exact ⟨o, its, m, S.tup nt (k _ _ e) hc hd, hc, hd, r⟩
  · obtain ⟨a, t, m, its, e1, e2, e3⟩ := a7 i h1 h2; exact ⟨a, t, m, its, e1, S.tup nt (k _ _ e2) rfl rfl, e3⟩
/-- the tuple (number, 0) -/
noncomputable abbrev keyO (i : Nat) (t u : Tok) (m : Nat) : Obj := tupO [.int ((10 + i : Nat) : Int) t, .int 0 u] m
theorem key_is {a : Addr} {t u : Tok} {m : Nat} (e : h.get? a = some (keyO i t u m)) : IsTupleKey (intKind prog w) h [((10 + i : Nat) : Int), 0] a :=
  ⟨_, _, m, e, rfl, rfl, .cons (intKind_is prog w _ t) (.cons (intKind_is prog w _ u) .nil)⟩
theorem MemoO.ofH (m : MemoO prog w V n h o j) (k : h.StaysIn h') (hd : h'.get? d = some o) : ∃ xs, h'.DictOfH (tupleKind (intKind prog w)) d xs ∧ xs.length + j ≤ n ∧
    (∀ i, j ≤ i → i < n → ∃ a t m items, atKey xs [((10 + i : Nat) : Int), 0] = some (a, .ref t) ∧ h'.get? t = some (tupO items m) ∧ V i items) ∧ (∀ i, i < j → atKey xs [((10 + i : Nat) : Int), 0] = none) := by
  obtain ⟨es, ep, xs, a1, a2, a3, a4, a5, a6, a7, a8⟩ := m.keep k
  exact ⟨xs, ⟨o, es, ep, hd, a1, a2, a3, a4, a5⟩, a6, a7, a8⟩
/-- mark in known -/
theorem memoIn {a : Addr} {t u : Tok} {mm : Nat} {Q : Value → Shared → Prop} (m : MemoO prog w V n h o j) (k : h.StaysIn s.heap) (hd : s.heap.get? d = some o) (ha : s.heap.get? a = some (keyO i t u mm)) (hi : i < n) (hu : A.units + 1 < cLine) (lo : (d == sysModules) = false)
    (hq : ∀ tk, Q (.bool (decide (j ≤ i))) { s with toks := tk }) : wpAny (model prog w) A (compareOp .In (.ref a) (.ref d)) Q E s := by
  obtain ⟨xs, D, a6, a7, a8⟩ := m.ofH k hd
  refine wpAny_in_heap (tupleKind_room_in1 hu) (key_is ha) lo D ?_
  have : (atKey xs [((10 + i : Nat) : Int), 0]).isSome = decide (j ≤ i) := by
    by_cases h : j ≤ i
    · obtain ⟨a, t, m, its, e, _⟩ := a7 i h hi; rw [e]; simp [h]
    · rw [a8 i (by (first | exact omq26 _ _ h | omega))]; simp [h]
  rw [this]; exact hq _
theorem memoGet {a : Addr} {t u : Tok} {mm : Nat} {Q : Value → Shared → Prop} (m : MemoO prog w V n h o j) (k : h.StaysIn s.heap) (hd : s.heap.get? d = some o) (ha : s.heap.get? a = some (keyO i t u mm)) (hj : j ≤ i) (hi : i < n) (hu : A.units + 1 < cLine)
    (hq : ∀ tk b mb items, s.heap.get? b = some (tupO items mb) → V i items → Q (.ref b) { s with toks := tk }) : wpAny (model prog w) A (getItem (.ref d) (.ref a)) Q E s := by
  obtain ⟨xs, D, a6, a7, a8⟩ := m.ofH k hd
  obtain ⟨a', t', m', its, e, e2, e3⟩ := a7 i hj hi
  exact wpAny_getItem_heap (tupleKind_room_in1 hu) (key_is ha) D e (hq _ t' m' its e2 e3)
theorem atKey_append {K : Type} [DecidableEq K] (xs : List (K × Addr × Value)) (k k' : K) (a : Addr) (v : Value) : atKey (xs ++ [(k, a, v)]) k' = (atKey xs k').or (if k = k' then some (a, v) else none) := by
  induction xs with
  | nil => by_cases q : k = k' <;> simp [atKey, q]
  | cons x xs ih =>
    by_cases q : x.1 = k'
    · simp [atKey, q]
    · simpa [atKey, q] using ih
/-- known[mark] = found -/
theorem memoSet {pre post : List (Addr × Obj)} {a b : Addr} {t u : Tok} {mm mb : Nat} {items : List Value} {Q : Unit → Shared → Prop} (m : MemoO prog w V n h₀ o (i + 1)) (S : St w h₀ L cl l lc (pre ++ (d, o) :: post) s.heap) (nt : NoTup (pre ++ (d, o) :: post)) (ha : s.heap.get? a = some (keyO i t u mm))
    (hb : s.heap.get? b = some (tupO items mb)) (hv : V i items) (hi : i < n) (hn : n ≤ 100) (hu : A.units + 1 < cLine)
    (hq : ∀ h' o' tk h₀', h₀.StaysIn h₀' → (hideAll s.heap (loose L cl lc (pre ++ (d, o) :: post))).StaysIn h₀' → MemoO prog w V n h₀' o' i → St w h₀' L cl l lc (pre ++ (d, o') :: post) h' → Heap.SameBut d s.heap h' → Q () { s with heap := h', toks := tk }) :
    wpAny (model prog w) A (setItem (.ref d) (.ref a) (.ref b)) Q E s := by
  have hd := S.new (o := o) (a := d) (by simp)
  obtain ⟨S', kz⟩ := S.freeze
  have m' := m.frz S nt S.out
  have ha' := S.tup nt ha rfl rfl
  have hb' := S.tup nt hb rfl rfl
  have m'' := m'
  obtain ⟨es, ep, xs, a1, a2, a3, a4, a5, a6, a7, a8⟩ := m''
  have D : s.heap.DictOfH (tupleKind (intKind prog w)) d xs := ⟨o, es, ep, hd, a1, a2, a3, fun x hx => by
    obtain ⟨o, its, m, e, r⟩ := a4 x hx; exact ⟨o, its, m, S'.base e, r⟩, a5⟩
  refine wpAny_setItem_heap (tupleKind_room_in1 hu) (key_is ha) D (fun h' D' hs => ?_) (by rw [sizeLine_eq]; (first | exact omq27 _ _ _ hn a6 | omega))
  have hnone := a8 i (Nat.lt_succ_self _)
  rw [storedH_new hnone] at D'
  obtain ⟨o', es', ep', b1, b2, b3, b4, b5, b6⟩ := D'
  have nc : ∀ v, o.data ≠ .cell v := m.noCell
  have S'' := S'.turn nc (fun b x hb e => (hs.2 b (by simpa using hb)).trans e) b1
  refine hq h' o' _ _ kz stays_refl ⟨es', ep', _, b2, b3, b4, fun x hx => ?_, b6, by rw [List.length_append, List.length_singleton]; (first | exact omq28 _ _ _ a6 | omega), fun i' h1 h2 => ?_, fun i' h1 => ?_⟩ S'' hs
  · rcases List.mem_append.mp hx with hx | hx
    · exact a4 x hx
    · rw [List.mem_singleton.mp hx]; exact key_is ha'
  · rw [atKey_append]
    by_cases q : i' = i
    · subst q; rw [hnone]; exact ⟨a, b, mb, items, by simp, hb', hv⟩
    · obtain ⟨a', t', m', its, e, e2⟩ := a7 i' (by (first | exact omq29 _ _ h1 q | omega)) h2
      exact ⟨a', t', m', its, by rw [e]; rfl, e2⟩
  · rw [atKey_append, a8 i' (by (first | exact omq30 _ _ h1 | omega)), if_neg]
    · rfl
    · intro q
      have := List.cons.inj q
      omega
theorem MemoO.none (prog : Program) (w : World) (V : Nat → List Value → Prop) (n : Nat) (h : Heap) : MemoO prog w V n h { cls := .type "dict", data := .dict #[] } n :=
  ⟨#[], 0, [], ⟨rfl, rfl, rfl⟩, rfl, rfl, (by intro _ h; cases h), List.nodup_nil, (by rw [List.length_nil]; (first | exact omq31 _ | omega)), (fun i h1 h2 => by (first | exact (omq32 _ _ h1 h2).elim | omega)), fun i h1 => rfl⟩
end
end Mine

/-! QFly -/
namespace Mine
/-- a fresh TreeFault -/
noncomputable def NewX (h h' : Heap) (e : Addr) : Prop := h.StaysIn h' ∧ h.get? e = none ∧ ∃ dct vs sl, h'.get? e = some ⟨.ref 59, dct, .fields vs, sl⟩ ∧ vs[1]? = some .none ∧ ∃ a0, vs[0]? = some a0
/-- a TreeFault on its way out: base stands, the old heap's objects up to their slots -/
noncomputable def Fly (base : Heap) (l : List Env) (h₁ : Heap) (e : Addr) (h : Heap) : Prop := ∃ a0, Heap.FlyingW base l e (.ref 59) a0 h ∧ h₁.UpToSlots h
/-- the same, with some mark -/
noncomputable def FlyAt (base : Heap) (l : List Env) (h₁ : Heap) (e : Addr) (h : Heap) : Prop := ∃ a0 fl, base.StaysIn h ∧ base.get? e = none ∧ h.FunFrames base l ∧ h.TracedAtW base e (.ref 59) a0 fl ∧ h₁.UpToSlots h

section
variable {M : Model} {A : Around} {E : Value → Shared → Prop} {s : Shared} {base : Heap} {env cenv : Env} {outer l : List Env} {L e : Addr} {cls a0 fl : Value}

/-- a mark set on a traceback: what stands -/
structure Mk (base : Heap) (l : List Env) (e : Addr) (cls a0 v : Value) (h h' : Heap) : Prop where
  stays : base.StaysIn h'
  frames : h'.FunFrames base l
  traced : h'.TracedAtW base e cls a0 v
  rest : ∀ b o, h.get? b = some o → (∀ vs, o.data ≠ .fields vs) → h'.get? b = some o
theorem marked {h : Heap} (hkb : base.StaysIn h) (hl : h.FunFrames base l) (ht : h.TracedAtW base e cls a0 fl) : ∃ oe vs T oT ts, h.get? e = some oe ∧ oe.data = .fields vs ∧ vs[1]? = some (.ref T) ∧ h.get? T = some oT ∧ oT.data = .fields ts ∧ ts[3]? = some fl ∧
    ∀ v, Mk base l e cls a0 v h (h.update T (Obj.mapFields (·.setIfInBounds 3 v))) := by
  obtain ⟨oe, vs, T, oT, ts, he, hc, hd, h1, hn, ne, hT, hdT, h3⟩ := ht
  refine ⟨oe, vs, T, oT, ts, he, hd, h1, hT, hdT, h3, fun v => ?_⟩
  have s := Heap.SameBut.update h T (Obj.mapFields (·.setIfInBounds 3 v))
  have kept : ∀ b o, h.get? b = some o → (∀ vs, o.data ≠ .fields vs) → (h.update T (Obj.mapFields (·.setIfInBounds 3 v))).get? b = some o := fun b o e1 e2 => (s.2 b (by rintro rfl; rw [hT] at e1; cases e1; exact e2 _ hdT)).trans e1
  have in3 := (Array.getElem?_eq_some_iff.mp h3).1
  exact ⟨fun b o e1 => (s.2 b (by rintro rfl; rw [hn] at e1; cases e1)).trans (hkb b o e1), hl.of_keeps fun b o e1 e2 => ⟨o, kept b o e1 e2, rfl⟩,
    ⟨oe, vs, T, _, _, (s.2 e (Ne.symm ne)).trans he, hc, hd, h1, hn, ne, Heap.get?_update_self _ hT (Obj.isFreed_of_fields (Obj.data_mapFields hdT _)), Obj.data_mapFields hdT _, by simp [in3]⟩, kept⟩

/-- a fault passed on: some mark is on it -/
theorem passOnW {α : Type} {what : String} {Q : α → Shared → Prop} (hkb : base.StaysIn s.heap) (hl : s.heap.FunFrames base l) (ht : s.heap.TracedAtW base e cls a0 fl)
    (h : ∀ h' v, Mk base l e cls a0 v s.heap h' → E (.ref e) { s with heap := h' }) : wpAny M A (PySem.passOn what (.ref e) cenv : Sem α) Q E s := by
  obtain ⟨oe, vs, T, oT, ts, he, hd, h1, hT, hdT, h3, K⟩ := marked hkb hl ht
  have put : ∀ fr, wpAny M A (setFlight (.ref e) fr) (fun _ s' => ∃ h' v, Mk base l e cls a0 v s.heap h' ∧ s' = { s with heap := h' }) E s := fun fr =>
    wpAny_bind (wpAny_field he hd h1 (wpAny_setField hT hdT (Array.getElem?_eq_some_iff.mp h3).1 ⟨_, _, K _, rfl⟩))
  refine wpAny_bind (wpAny_field he hd h1 (wpAny_bind (wpAny_mono (put cenv.frame) (fun _ s' x => ?_) fun _ _ x => x)))
  obtain ⟨h', v, m, rfl⟩ := x
  exact wpAny_throw (h h' v m)

/-- a frame left by a fault that bears any mark -/
theorem leavesAtW {Q : Unit → Shared → Prop} (hfr : A.frames = some (env :: outer)) (hf : env.frame = some L) (hkb : base.StaysIn s.heap) (hen : base.get? e = none) (hl : s.heap.FunFrames base (env :: outer)) (ht : s.heap.TracedAtW base e cls a0 fl)
    (hQ : ∀ h', Heap.FlyingW base outer e cls a0 h' → s.heap.UpToSlots h' → Q () { s with heap := h' }) : wpAny M A (leaving env (.ref e)) Q E s := by
  unfold leaving
  by_cases own : fl = rawInt L
  · refine wpAny_bind (wpAny_noteFrame_againW hf (own ▸ ht) (wpAny_landsW (l := env :: outer) ⟨hkb, hen, hl, own ▸ ht⟩ fun h' f U => hQ h' ⟨f.1, f.2.1, f.2.2.1.2.2, f.2.2.2⟩ U))
  · obtain ⟨oe, vs, T, oT, ts, he, hd, h1, hT, hdT, h3, K⟩ := marked hkb hl ht
    have K := K .none
    obtain ⟨o, us, _, _, _, g1, ⟨g2, g3⟩, g4, g5, _⟩ := K.traced
    unfold noteFrame
    rw [hf]
    refine wpAny_bind (wpAny_bind (wpAny_field he hd h1 ?_))
    rw [show (Value.ref T != Value.none) = true from rfl]
    refine wpAny_bind (wpAny_field hT hdT h3 ?_)
    rw [show (fl == rawInt L) = false by simpa using own]
    refine wpAny_bind (wpAny_setField hT hdT (Array.getElem?_eq_some_iff.mp h3).1 ?_)
    refine wpAny_newEntryW hfr K.frames hf g1 K.stays hen g4 (Array.getElem?_eq_some_iff.mp g5).1 g3 fun h' f => ?_
    exact hQ h' ⟨f.1, hen, f.2.1.2.2, g2 ▸ f.2.2.1⟩ fun b x e1 e2 => f.2.2.2 b x (K.rest b x e1 e2) e2

/-- raise, of an exception of ours that stands -/
theorem rRaise {w : World} {ex : Expr} {pos : Pos} {Q : Flow → Shared → Prop} (hh : A.handled = none)
    (h : wpAny M A (eval ex env) (fun v s₁ => ∃ e ob vs, v = .ref e ∧ (wr.heap_1 w.params).In s₁.heap ∧ s₁.heap.get? e = some ob ∧ ob.cls = .ref 59 ∧ ob.data = .fields vs ∧ vs[1]? = some .none ∧ E (.ref e) s₁) E s) :
    wpAny M A (exec (.Raise (some ex) none pos) env) Q E s := by
  show wpAny M A (do standAt pos; raiseStmt env (some (do let v ← eval ex env; standAt pos; pure v)) none) Q E s
  refine wpAny_bind (wpAny_standAt ?_)
  unfold raiseStmt
  refine wpAny_bind (wpAny_bind (wpAny_mono h (fun v s₁ h₁ => wpAny_bind (wpAny_standAt (wpAny_pure ?_))) fun _ _ x => x))
  obtain ⟨e, ob, vs, rfl, K, he, hcls, hd, h1, hE⟩ := h₁
  obtain ⟨hp, g, d, tk, os⟩ := s₁
  have l1 : Looks M hp (isType (.ref e)) false := (Looks.ld he).andThen (by rw [hd]; exact .now)
  have l2 : Looks M hp (typeOf (.ref e)) (.ref 59) := (Looks.ld he).andThen (by rw [hcls]; exact .now)
  have l3 : Looks M hp (isInstance (.ref e) (.type "BaseException")) true := l2.andThen (looks_mroIn K rfl)
  have l4 : Looks M hp (typeOf (.ref 59)) (.type "type") := looks_typeIn K rfl
  have l5 : Looks M hp (PySem.field (.ref e) 1) .none := looks_field (c := ob.cls) (d := ob.dict) (sl := ob.slots) (by rw [he]; obtain ⟨_, _, _, _⟩ := ob; cases hd; rfl) 1 h1
  repeat lk
  refine wpAny_handled ?_
  rw [hh]
  exact wpAny_throw hE

variable {w : World} {h₀ h h₁ hX : Heap} {cl : List (Str × Addr)} {lo : List (Str × Value)} {lc : List (Str × Option Value)} {news : List (Addr × Obj)}
/-- the frames below, and this one -/
theorem framesAt {oL : Obj} (B : Below A base outer h₁) (k : h₁.StaysIn h) (hf : env.frame = some L) (hk : env.scope.kind = .function) (hL : h.get? L = some oL) (hd : ∀ vs, oL.data ≠ .fields vs) (hn : base.get? L = none) : h.FunFrames base (env :: outer) :=
  ⟨by rw [hk]; decide, ⟨L, oL, hf, hn, hL, hd⟩, B.frames.of_keeps fun b o e _ => ⟨o, k _ _ e, rfl⟩⟩
theorem belowAt {oL : Obj} (B : Below A base outer h₁) (k : h₁.StaysIn h) (hf : env.frame = some L) (hk : env.scope.kind = .function) (hL : h.get? L = some oL) (hd : ∀ vs, oL.data ≠ .fields vs) (hn : base.get? L = none) : Below (A.deeper env) base (env :: outer) h :=
  ⟨Around.frames_deeper B.stack, stays_trans B.stays k, framesAt B k hf hk hL hd hn⟩
/-- a fresh fault leaves its frame -/
theorem leaveNew {Q : Unit → Shared → Prop} (B : Below A base outer h₁) (k1 : h₁.StaysIn h₀) (S : St w h₀ L cl lo lc news h) (hx : NewX h s.heap e) (hf : env.frame = some L) (hk : env.scope.kind = .function)
    (hQ : ∀ h', Fly base outer h₁ e h' → Q () { s with heap := h' }) : wpAny M (A.deeper env) (leaving env (.ref e)) Q E s := by
  obtain ⟨x1, x2, dct, vs, sl, x3, x4, a0, x5⟩ := hx
  obtain ⟨oL, es, n, hL, hLd⟩ := S.here
  have kk : h₁.StaysIn s.heap := stays_trans k1 (stays_trans S.out x1)
  have hl := framesAt B kk hf hk (x1 _ _ hL) (fun vs q => by rw [hLd] at q; cases q) (fresh_of_stays (stays_trans B.stays k1) S.lz)
  refine wpAny_leaving_firstW (a0 := a0) (Around.frames_deeper B.stack) hl hf x3 (stays_trans B.stays kk) (fresh_of_stays (stays_trans B.stays (stays_trans k1 S.out)) x2) rfl x4 x5 fun h' hL => ?_
  obtain ⟨k1', ⟨_, _, k2⟩, k3, k4⟩ := hL
  exact hQ h' ⟨a0, ⟨k1', fresh_of_stays (stays_trans B.stays (stays_trans k1 S.out)) x2, k2, k3⟩, (Heap.UpToSlots.of_keeps kk).trans k4⟩
/-- a fault from below leaves this frame too -/
theorem leaveOn {Q : Unit → Shared → Prop} (B : Below A base outer h₁) (k : h₁.StaysIn hX) (hfl : Fly base (env :: outer) hX e s.heap) (hf : env.frame = some L)
    (hQ : ∀ h', Fly base outer h₁ e h' → Q () { s with heap := h' }) : wpAny M (A.deeper env) (leaving env (.ref e)) Q E s := by
  obtain ⟨a0, f, U⟩ := hfl
  exact wpAny_leaves_onW (Around.frames_deeper B.stack) hf f fun h' x1 x2 => hQ h' ⟨a0, x1, (Heap.UpToSlots.of_keeps k).trans (U.trans x2)⟩
theorem leaveAt {Q : Unit → Shared → Prop} (B : Below A base outer h₁) (k : h₁.StaysIn hX) (hfl : FlyAt base (env :: outer) hX e s.heap) (hf : env.frame = some L)
    (hQ : ∀ h', Fly base outer h₁ e h' → Q () { s with heap := h' }) : wpAny M (A.deeper env) (leaving env (.ref e)) Q E s := by
  obtain ⟨a0, fl, f1, f2, f3, f4, U⟩ := hfl
  exact leavesAtW (Around.frames_deeper B.stack) hf f1 f2 f3 f4 fun h' x1 x2 => hQ h' ⟨a0, x1, (Heap.UpToSlots.of_keeps k).trans (U.trans x2)⟩

theorem noteFrame_frame {e : Value} (hf : cenv.frame = env.frame) : noteFrame e cenv = noteFrame e env := by
  unfold noteFrame PySem.frameOf
  rw [hf]
/-- a fault from an element of a comprehension -/
theorem compRaise {Q : Value → Shared → Prop} {use : Option (Value → Sem Unit)} {acc : Value} {C : Addr} (B : Below A base outer h₁) (k : h₁.StaysIn hX) (hfl : Fly base (env :: outer) hX e s.heap) (hf : env.frame = some L) (hf' : cenv.frame = some L)
    (hC : ∃ m, hX.Ns C m) (C1 : h₁.get? C = none) (hLC : L ≠ C)
    (hE : ∀ h', FlyAt base (env :: outer) h₁ e h' → E (.ref e) { s with heap := h' }) :
    notedBy M (A.deeper env) cenv (fun e s' => compPost M (A.deeper env) E use Q acc C (.error e) s') (.ref e) s := by
  obtain ⟨a0, f, U⟩ := hfl
  unfold notedBy
  rw [noteFrame_frame (hf'.trans hf.symm)]
  refine wpAny_looks_onW (Around.frames_deeper B.stack) hf f fun h2 held U2 => ?_
  obtain ⟨m, hC⟩ := hC
  have hC2 := (U.trans U2).ns hC
  have out : ∀ h3, Heap.SameBut C h2 h3 → ∀ cenv' : Env, wpAny M (A.deeper env) (PySem.passOn "comprehension.variables-let-go" (.ref e) cenv' : Sem Value) (fun _ _ => False) E { s with heap := h3 } := by
    intro h3 hs cenv'
    obtain ⟨g1, g2, g3, oe, vs, T, oT, ts, t1, t2, t3, t4, t5, t6, t7, t8, t9⟩ := held
    obtain ⟨oC, es, n, c1, c2, _⟩ := hC2
    have neC : ∀ b o vs, h2.get? b = some o → o.data = .fields vs → b ≠ C := fun b o vs e1 e2 q => by rw [q, c1] at e1; cases e1; rw [c2] at e2; cases e2
    have nb : base.get? C = none := fresh_of_stays B.stays C1
    have k3 : base.StaysIn h3 := fun b o e1 => (hs.2 b (fun q => by rw [q, nb] at e1; cases e1)).trans (g1 _ _ e1)
    have fr3 : ∀ l : List Env, h2.FunFrames base l → (∀ x ∈ l.filterMap (·.frame), x ≠ C) → h3.FunFrames base l := by
      intro l
      induction l with
      | nil => intro _ _; trivial
      | cons x r ih =>
        rintro ⟨a1, ⟨L', o, b1, b2, b3, b4⟩, a3⟩ hn
        rw [List.filterMap_cons, b1] at hn
        exact ⟨a1, ⟨L', o, b1, b2, (hs.2 L' (hn L' (.head _))).trans b3, b4⟩, ih a3 fun y hy => hn y (.tail _ hy)⟩
    have nf : ∀ x ∈ (env :: outer).filterMap (·.frame), x ≠ C := by
      intro x hx
      rw [List.filterMap_cons, hf] at hx
      rcases List.mem_cons.mp hx with rfl | hx
      · exact hLC
      · obtain ⟨_, o, e1, _⟩ := B.frames.mem hx
        intro q; rw [q, C1] at e1; cases e1
    refine passOnW (base := base) (l := env :: outer) (a0 := a0) (cls := .ref 59) (fl := rawInt L) k3 (fr3 _ g3 nf) ⟨oe, vs, T, oT, ts, (hs.2 e (neC e oe vs t1 t3)).trans t1, t2, t3, t4, t5, t6, (hs.2 T (neC T oT ts t7 t8)).trans t7, t8, t9⟩ fun h4 v m => hE h4 ⟨a0, v, m.stays, g2, m.frames, m.traced, ?_⟩
    intro b o e1 e2
    obtain ⟨sl, e3⟩ := ((Heap.UpToSlots.of_keeps k).trans (U.trans U2)) b o e1 e2
    have bC : b ≠ C := fun q => by rw [q, C1] at e1; cases e1
    exact ⟨sl, m.rest b _ ((hs.2 b bC).trans e3) e2⟩
  exact ⟨m, hC2, fun h3 hs cenv' _ => out h3 hs cenv'⟩
end
end Mine

namespace Mine
-- one step of the walk by the plain rules: «k_search [..]» tries rules of one premise, «k_search {..}» rules with a check by computation
set_option hygiene false in
local macro_rules | `(tactic| k_search [$xs,*]) => `(tactic| first $[| with_reducible refine $xs ?_]*)
set_option hygiene false in
local macro_rules | `(tactic| k_search {$xs,*}) => `(tactic| first $[| with_reducible refine $xs ?_ (by k_dflt first | rfl | exact fun _ => rfl)]*)
set_option hygiene false in
local macro_rules | `(tactic| walk_at "st") => `(tactic| first
  | k_search [wpAny_execs_cons, wpAny_execs_nil]
  | ((with_reducible show wpAny _ _ (eval _ _) _ _ _); first
      | ((with_reducible show wpAny _ _ (eval (Expr.Name _ _) _) _ _ _); first
          | refine rL (by assumption) (by exact rfl) ?_
          | refine rC (by assumption) (by exact rfl) ?_ (hc := by exact rfl)
          | refine rG (by assumption) (by k_is) ?_
          | refine rB (by assumption) (by k_is) (by boot_by_name) ?_)
      | k_search [wpAny_Constant_int, Calls.Constant_str, Constant_bool, Constant_none, wpAny_BinOp, Attribute_name]
      | ((with_reducible show wpAny _ _ (eval (Expr.Call _ _ _ _) _) _ _ _); k_search {MethodCall_, Call_})
      | k_search {wpAny_Compare1}
      | ((with_reducible show wpAny _ _ (eval (Expr.Subscript _ _ _) _) _ _ _); first
        | with_reducible refine wpAny_Subscript_Slice (T := "list") slot_list_getitem.lookup ?_ (by k_dflt exact fun _ _ => rfl)
        | k_search [Subscript_])
      | k_search [IfExp_, UnaryOp_, BoolOp_one, BoolOp_and, BoolOp_or, wpAny_Slice, Tuple_, List_]
      | with_reducible refine Attribute_any_ ?_ (by with_unfolding_all rfl))
  | ((with_reducible show wpAny _ _ (exec _ _) _ _ _); first
      | k_search [wpAny_If, wpAny_Return_some]
      | k_search {wpAny_Assign_Name, wpAny_Assign_Subscript, wpAny_For}
      | with_reducible refine Assign_Tuple ?_ (by k_dflt rfl) (by k_dflt rfl)
      | with_reducible refine Assign_Tuple_swapped ?_ (by k_dflt rfl) (by k_dflt rfl)
      | with_reducible refine wpAny_Expr ?_ (by k_dflt rfl) (by k_dflt rfl))
  | ((with_reducible show wpAny _ _ (PySem.isTrue _ _ _) _ _ _); first
      | k_search {wpAny_isTrue_Compare1}
      | k_search [isTrue_not, isTrue_and_nil, isTrue_or_nil, isTrue_and, isTrue_or]
      | k_search {isTrue_plain})
  | ((with_reducible show wpAny _ _ (storeName _ _ _) _ _ _); refine sL (by assumption) ?_; intro _ _)
  | ((with_reducible show wpAny _ _ (spliced _) _ _ _); first | k_search [spliced_none] | k_search {spliced_more})
  | ((with_reducible show wpAny _ _ (callWith _ _ _ _ _) _ _ _); first
      | ((with_reducible show wpAny _ _ (callWith _ (Value.ref _) _ _ _) _ _ _); first | refine rCW0 (by assumption) (by k_is) ?_ | refine rCW (by assumption) (by k_is) ?_)
      | k_search [callWith_method0]
      | with_reducible refine callWith_method1 ?_ (by k_dflt rfl) (by k_dflt rfl)
      | with_reducible refine PyProof.Rows.callWith_type1 ?_ (by k_dflt rfl) (by k_dflt rfl))
  | ((with_reducible show wpAny _ _ (getAttr (Value.ref _) _ _) _ _ _); refine rAttr (by assumption) (by first | exact St.inst (by assumption) (by assumption) (by assumption) | exact St.instN (by assumption) (by k_mem) (by k_mem)) (by k_is) (by k_is) (by k_is) (by k_is) (by k_get) (by k_handed) ?_)
  | ((with_reducible show wpAny _ _ (getMethod (Value.ref _) _ _) _ _ _); refine rMeth (by assumption) (by first | exact St.inst (by assumption) (by assumption) (by assumption) | exact St.instN (by assumption) (by k_mem) (by k_mem)) (by k_is) (by k_is) (by k_is) (by k_get) ?_)
  | ((with_reducible show wpAny _ _ (newTuple _) _ _ _); refine rTup (by assumption) (by size_fits) ?_; intro _ _ _ _ _)
  | ((with_reducible show wpAny _ _ (newList _) _ _ _); refine rLst (by assumption) (by size_fits) ?_; intro _ _ _ _ _)
  | ((with_reducible show wpAny _ _ (binaryOp _ _ _) _ _ _); first
      | k_search [add_int, PyProof.Rows.sub_int]
      | ((with_reducible show wpAny _ _ (binaryOp Operator.Mult (Value.int _ _) (Value.int _ _)) _ _ _); refine PyProof.Rows.mul_int ?_)
      | ((with_reducible first | refine PyProof.Rows.mod_int ?_ ?_ | refine PyProof.Rows.floordiv_int ?_ ?_); first | decide | omega))
  | k_search [wpAny_truthy_bool, wpAny_evalPart_some, wpAny_evalPart_none, PyProof.Rows.assign_Name, PyProof.Rows.bindName_, aeN, aeT, ae0, PyProof.Rows.assignInOrder_cons, PyProof.Rows.assignInOrder_nil, app0, PySem.W.call_one, iteN, iteM]
  | k_search [not_of, PyProof.Rows.neg_int, PySem.eq_str, eq_int, ne_int, gt_int, lt_int, ge_int, le_int]
  | ((with_reducible show (_ ∧ _)); refine ⟨St.kin (by assumption), ?_⟩)
  | k_search [PyProof.Rows.ite_tt, PyProof.Rows.ite_ff]
  | dsimp only)

/-! QF1 -/
section
variable {prog : Program} {w : World} {A : Around} {Q E : Value → Shared → Prop} {s : Shared} 

end
namespace fetch_refC
noncomputable abbrev V := Program × World × Around × (Value → Shared → Prop) × (Value → Shared → Prop) × Shared × Addr × Addr × Addr × Int × (Int → Option Addr)
noncomputable def P (prog : Program) (w : World) (A : Around) (Q : Value → Shared → Prop) (E : Value → Shared → Prop) (s : Shared) (sh : Addr) (r : Addr) (row : Addr) (n : Int) (g : Int → Option Addr) : Prop := ∀ (W : Wd w s.heap) (R : Rm A 2 10) (hs : IsShelf prog w s.heap sh g) (hr : IsRef w s.heap r n) (hg : g n = some row) (hrow : (∃ arr k, s.heap.get? row = some { cls := .type "list", data := .seq arr k }) ∨ ∃ es k, s.heap.get? row = some { cls := .type "dict", data := .dict es k }) (hret : ∀ h' tk', s.heap.StaysIn h' → Q (.ref row) { s with heap := h', toks := tk' }), wpAny (model prog w) A (call (.ref 299) [.ref sh, .ref r]) Q E s
noncomputable def wc : V := worst (α := V) (default, Cx.one.w, {}, fun _ _ => True, fun _ _ => True, Cx.one.s, (0 : Nat), (0 : Nat), (0 : Nat), (0 : Int), fun _ => none) (fun _ : V => (0 : Nat)) fun v => P v.1 v.2.1 v.2.2.1 v.2.2.2.1 v.2.2.2.2.1 v.2.2.2.2.2.1 v.2.2.2.2.2.2.1 v.2.2.2.2.2.2.2.1 v.2.2.2.2.2.2.2.2.1 v.2.2.2.2.2.2.2.2.2.1 v.2.2.2.2.2.2.2.2.2.2
noncomputable def prog : Program := wc.1
noncomputable def w : World := wc.2.1
noncomputable def A : Around := wc.2.2.1
noncomputable def Q : Value → Shared → Prop := wc.2.2.2.1
noncomputable def E : Value → Shared → Prop := wc.2.2.2.2.1
noncomputable def s : Shared := wc.2.2.2.2.2.1
noncomputable def sh : Addr := wc.2.2.2.2.2.2.1
noncomputable def r : Addr := wc.2.2.2.2.2.2.2.1
noncomputable def row : Addr := wc.2.2.2.2.2.2.2.2.1
noncomputable def n : Int := wc.2.2.2.2.2.2.2.2.2.1
noncomputable def g : Int → Option Addr := wc.2.2.2.2.2.2.2.2.2.2
theorem at_c (W : Wd w s.heap) (R : Rm A 2 10) (hs : IsShelf prog w s.heap sh g) (hr : IsRef w s.heap r n) (hg : g n = some row) (hrow : (∃ arr k, s.heap.get? row = some { cls := .type "list", data := .seq arr k }) ∨ ∃ es k, s.heap.get? row = some { cls := .type "dict", data := .dict es k }) (hret : ∀ h' tk', s.heap.StaysIn h' → Q (.ref row) { s with heap := h', toks := tk' }) : wpAny (model prog w) A (call (.ref 299) [.ref sh, .ref r]) Q E s := by
  obtain ⟨dsh, tb, tr, t1, t2, k1, f, s1, s2, s3, lo, s4⟩ := hs
  obtain ⟨dr, t3, t4, t5, t6, k2, r1, r2⟩ := hr
  obtain ⟨tp, t7, k, hf, o1⟩ := s4 _ _ hg
  (refine' enter0 ?W ?ho ?hcd ?hroom ?hb ?hloc ?_ ?c1 ?c2 ?c3 ?c4; (case W => assumption); (case ho => k_is); (case hcd => k_is); (case hroom => exact Rm.room (by assumption)); (case hb => first | exact BindsTo.of_eq rfl | exact binds_K (Wd.K (by assumption)) rfl (by k_is) rfl rfl rfl); (case hloc => exact locs rfl); (case c1 => exact rfl); (case c2 => exact rfl); (case c3 => exact rfl); (case c4 => decide); intro _ _ _; (try dsimp only))
  rename St _ _ _ _ _ _ _ _ => S
  replace S := S.names (l' := [("value", .ref r), ("self", .ref sh)]) ⟨rfl, rfl, trivial⟩
  repeat (walk_at "st")
  rename St _ _ _ _ _ _ _ _ => S
  refine forRange (n := 30) (fun i gg l lc news => gg = s.heap ∧ Sub l [("here", if i = 0 then .ref r else .ref row), ("self", .ref sh)] ∧ i ≤ 1 ∧ news = []) S R.hh (by decide) ⟨rfl, ⟨rfl, rfl, trivial⟩, by decide, rfl⟩ ?_ ?_
  · intro i t h₀ l lc news h tk I o hof hi hJ S
    obtain ⟨rfl, hsub, hi1, rfl⟩ := hJ
    replace S := S.names hsub
    have hcase : i = 0 ∨ i = 1 := by (first | exact omq33 _ hi hi1 | omega)
    rcases hcase with rfl | rfl
    · rw [if_pos rfl] at S
      repeat (walk_at "st")
      rename St _ _ _ _ _ _ _ _ => S
      refine isi_ref_ref S.kin (S.base r1) (S.base r2) fun tk => ?_
      repeat (walk_at "st")
      rename St _ _ _ _ _ _ _ _ => S
      refine rMethGet (mapKeep s3 S.out) ?_
      repeat (walk_at "st")
      rename St _ _ _ _ _ _ _ _ => S
      refine rGet2 (intKind_is prog w n t4) (mapKeep s3 S.out) lo ?_
      rw [hf, Option.getD_some]
      refine rUnp S R.hh (S.base o1) rfl rfl ?_
      intro h5 k5 S
      repeat (walk_at "st")
      refine ite_neg (by decide) ?_
      repeat (walk_at "st")
      rename St _ _ _ _ _ _ _ _ => S
      exact ⟨_, _, _, _, _, _, rfl, ⟨rfl, ⟨rfl, rfl, trivial⟩, by decide, rfl⟩, S.tail⟩
    · rw [if_neg (by decide)] at S
      repeat (walk_at "st")
      rename St _ _ _ _ _ _ _ _ => S
      rcases hrow with ⟨arr, kk, hrow⟩ | ⟨es, kk, hrow⟩
      · refine isi_list_ref S.kin (S.base hrow) fun tk => ?_
        repeat (walk_at "st")
        exact hret _ _ (St.out (by assumption))
      · refine isi_dict_ref S.kin (S.base hrow) fun tk => ?_
        repeat (walk_at "st")
        exact hret _ _ (St.out (by assumption))
  · intro h₀ l lc news h tk hJ
    exact absurd hJ.2.2.1 (by decide)

end fetch_refC
section
variable {prog : Program} {w : World} {A : Around} {Q E : Value → Shared → Prop} {s : Shared} 
/-- fetch of a reference -/
theorem fetch_ref {sh r row : Addr} {n : Int} {g : Int → Option Addr}
    (W : Wd w s.heap) (R : Rm A 2 10) (hs : IsShelf prog w s.heap sh g) (hr : IsRef w s.heap r n) (hg : g n = some row)
    (hrow : (∃ arr k, s.heap.get? row = some { cls := .type "list", data := .seq arr k }) ∨ ∃ es k, s.heap.get? row = some { cls := .type "dict", data := .dict es k })
    (hret : ∀ h' tk', s.heap.StaysIn h' → Q (.ref row) { s with heap := h', toks := tk' }) : wpAny (model prog w) A (call (.ref 299) [.ref sh, .ref r]) Q E s := worst_all (α := fetch_refC.V) (default, Cx.one.w, {}, fun _ _ => True, fun _ _ => True, Cx.one.s, (0 : Nat), (0 : Nat), (0 : Nat), (0 : Int), fun _ => none) (fun _ : fetch_refC.V => (0 : Nat)) (fun v => fetch_refC.P v.1 v.2.1 v.2.2.1 v.2.2.2.1 v.2.2.2.2.1 v.2.2.2.2.2.1 v.2.2.2.2.2.2.1 v.2.2.2.2.2.2.2.1 v.2.2.2.2.2.2.2.2.1 v.2.2.2.2.2.2.2.2.2.1 v.2.2.2.2.2.2.2.2.2.2) (fun _ => @fetch_refC.at_c) (prog, w, A, Q, E, s, sh, r, row, n, g) W R hs hr hg hrow hret
end
namespace fetch_selfC
noncomputable abbrev V := Program × World × Around × (Value → Shared → Prop) × (Value → Shared → Prop) × Shared
noncomputable def P (prog : Program) (w : World) (A : Around) (Q : Value → Shared → Prop) (E : Value → Shared → Prop) (s : Shared) : Prop := ∀ {sh v : Addr} (W : Wd w s.heap) (R : Rm A 2 10) (hv : (∃ x, IsNm w s.heap v x) ∨ ∃ b, IsSt w s.heap v b) (hret : ∀ h' tk', s.heap.StaysIn h' → Q (.ref v) { s with heap := h', toks := tk' }), wpAny (model prog w) A (call (.ref 299) [.ref sh, .ref v]) Q E s
noncomputable def wc : V := worst (α := V) (default, Cx.one.w, {}, fun _ _ => True, fun _ _ => True, Cx.one.s) (fun _ : V => (0 : Nat)) fun v => P v.1 v.2.1 v.2.2.1 v.2.2.2.1 v.2.2.2.2.1 v.2.2.2.2.2
noncomputable def prog : Program := wc.1
noncomputable def w : World := wc.2.1
noncomputable def A : Around := wc.2.2.1
noncomputable def Q : Value → Shared → Prop := wc.2.2.2.1
noncomputable def E : Value → Shared → Prop := wc.2.2.2.2.1
noncomputable def s : Shared := wc.2.2.2.2.2
theorem at_c {sh v : Addr} (W : Wd w s.heap) (R : Rm A 2 10) (hv : (∃ x, IsNm w s.heap v x) ∨ ∃ b, IsSt w s.heap v b) (hret : ∀ h' tk', s.heap.StaysIn h' → Q (.ref v) { s with heap := h', toks := tk' }) : wpAny (model prog w) A (call (.ref 299) [.ref sh, .ref v]) Q E s := by
  (refine' enter0 ?W ?ho ?hcd ?hroom ?hb ?hloc ?_ ?c1 ?c2 ?c3 ?c4; (case W => assumption); (case ho => k_is); (case hcd => k_is); (case hroom => exact Rm.room (by assumption)); (case hb => first | exact BindsTo.of_eq rfl | exact binds_K (Wd.K (by assumption)) rfl (by k_is) rfl rfl rfl); (case hloc => exact locs rfl); (case c1 => exact rfl); (case c2 => exact rfl); (case c3 => exact rfl); (case c4 => decide); intro _ _ _; (try dsimp only))
  rename St _ _ _ _ _ _ _ _ => S
  replace S := S.names (l' := [("value", .ref v), ("self", .ref sh)]) ⟨rfl, rfl, trivial⟩
  repeat (walk_at "st")
  rename St _ _ _ _ _ _ _ _ => S
  refine forRange (n := 30) (fun i gg l lc news => gg = s.heap ∧ Sub l [("here", .ref v), ("self", .ref sh)] ∧ i = 0 ∧ news = []) S R.hh (by decide) ⟨rfl, ⟨rfl, rfl, trivial⟩, rfl, rfl⟩ ?_ ?_
  · intro i t h₀ l lc news h tk I o hof hi hJ S
    obtain ⟨rfl, hsub, hi1, rfl⟩ := hJ
    replace S := S.names hsub
    repeat (walk_at "st")
    rename St _ _ _ _ _ _ _ _ => S
    rcases hv with ⟨x, d, t1, t2, k, h1, h2⟩ | ⟨b, d, t1, t2, t3, k, h1, h2⟩
    · refine isi_nm_ref S.kin (S.base h1) (S.base h2) fun tk => ?_
      repeat (walk_at "st")
      exact hret _ _ (St.out (by assumption))
    · refine isi_str_ref S.kin (S.base h1) (S.base h2) fun tk => ?_
      repeat (walk_at "st")
      exact hret _ _ (St.out (by assumption))
  · intro h₀ l lc news h tk hJ
    exact absurd hJ.2.2.1 (by decide)

end fetch_selfC
section
variable {prog : Program} {w : World} {A : Around} {Q E : Value → Shared → Prop} {s : Shared} 
/-- fetch of what is no reference -/
theorem fetch_self {sh v : Addr} (W : Wd w s.heap) (R : Rm A 2 10)
    (hv : (∃ x, IsNm w s.heap v x) ∨ ∃ b, IsSt w s.heap v b)
    (hret : ∀ h' tk', s.heap.StaysIn h' → Q (.ref v) { s with heap := h', toks := tk' }) : wpAny (model prog w) A (call (.ref 299) [.ref sh, .ref v]) Q E s := worst_all (α := fetch_selfC.V) (default, Cx.one.w, {}, fun _ _ => True, fun _ _ => True, Cx.one.s) (fun _ : fetch_selfC.V => (0 : Nat)) (fun v => fetch_selfC.P v.1 v.2.1 v.2.2.1 v.2.2.2.1 v.2.2.2.2.1 v.2.2.2.2.2) (fun _ => @fetch_selfC.at_c) (prog, w, A, Q, E, s) W R hv hret
/-- get: the word of a group's head -/
theorem get_type {sh o nm : Addr} {t : Tok} {k : Nat} {g : Int → Option Addr} (W : Wd w s.heap) (R : Rm A 3 14) (hs : IsShelf prog w s.heap sh g)
    (hg : s.heap.get? o = some (dictOf [kv w "Type" t (.ref nm)] k)) (hn : IsNm w s.heap nm "OCG") {tk : Tok} (lo : (o == sysModules) = false)
    (hret : ∀ h' tk', s.heap.StaysIn h' → Q (.ref nm) { s with heap := h', toks := tk' }) :
    wpAny (model prog w) A (call (.ref 306) [.ref sh, .ref o, .str "Type" tk]) Q E s := by
  obtain ⟨dsh, tb, tr, t1, t2, k1, f, s1, s2, s3, lo3, s4⟩ := hs
  (refine' enter0 ?W ?ho ?hcd ?hroom ?hb ?hloc ?_ ?c1 ?c2 ?c3 ?c4; (case W => assumption); (case ho => k_is); (case hcd => k_is); (case hroom => exact Rm.room (by assumption)); (case hb => first | exact BindsTo.of_eq rfl | exact binds_K (Wd.K (by assumption)) rfl (by k_is) rfl rfl rfl); (case hloc => exact locs rfl); (case c1 => exact rfl); (case c2 => exact rfl); (case c3 => exact rfl); (case c4 => decide); intro _ _ _; (try dsimp only))
  rename St _ _ _ _ _ _ _ _ => S
  replace S := S.names (l' := [("key", .str "Type" tk), ("head", .ref o), ("self", .ref sh)]) ⟨rfl, rfl, rfl, trivial⟩
  repeat (walk_at "st")
  rename St _ _ _ _ _ _ _ _ => S
  refine rMethGet (mapKeep (map1 (prog := prog) hg) S.out) ?_
  repeat (walk_at "st")
  rename St _ _ _ _ _ _ _ _ => S
  refine rGet1 (strKind_is prog w _ _) (mapKeep (map1 (prog := prog) hg) S.out) lo ?_
  rw [if_pos rfl, Option.getD_some]
  repeat (walk_at "st")
  rename St _ _ _ _ _ _ _ _ => S
  refine fetch_self S.wdh R.dp (.inl ⟨_, hn.keep S.out⟩) fun h' tk' k => ?_
  exact hret _ _ (stays_trans S.out k)

theorem word_at {sh o nm : Addr} {t : Tok} {k : Nat} {g : Int → Option Addr} (W : Wd w s.heap) (R : Rm A 4 20) (hs : IsShelf prog w s.heap sh g)
    (hg : s.heap.get? o = some (dictOf [kv w "Type" t (.ref nm)] k)) (hn : IsNm w s.heap nm "OCG") {tk tk2 : Tok} (lo : (o == sysModules) = false)
    (hret : ∀ h' tk' t', s.heap.StaysIn h' → Q (.str "OCG" t') { s with heap := h', toks := tk' }) :
    wpAny (model prog w) A (call (.ref 372) [.ref sh, .ref o, .str "Type" tk, .str "" tk2]) Q E s := by
  have hs' := hs
  obtain ⟨dsh, tb, tr, t1, t2, k1, f, s1, s2, s3, lo3, s4⟩ := hs
  have hn' := hn
  obtain ⟨d, t5, t6, k5, n1, n2⟩ := hn
  (refine' enter0 ?W ?ho ?hcd ?hroom ?hb ?hloc ?_ ?c1 ?c2 ?c3 ?c4; (case W => assumption); (case ho => k_is); (case hcd => k_is); (case hroom => exact Rm.room (by assumption)); (case hb => first | exact BindsTo.of_eq rfl | exact binds_K (Wd.K (by assumption)) rfl (by k_is) rfl rfl rfl); (case hloc => exact locs rfl); (case c1 => exact rfl); (case c2 => exact rfl); (case c3 => exact rfl); (case c4 => decide); intro _ _ _; (try dsimp only))
  rename St _ _ _ _ _ _ _ _ => S
  replace S := S.names (l' := [("key", .str "Type" tk), ("head", .ref o), ("shelf", .ref sh)]) ⟨rfl, rfl, rfl, trivial⟩
  repeat (walk_at "st")
  rename St _ _ _ _ _ _ _ _ => S
  refine get_type S.wdh R.dp (hs'.keep S.out) (S.base hg) (hn'.keep S.out) lo fun h' tk' k => ?_
  replace S := S.keeps k
  repeat (walk_at "st")
  rename St _ _ _ _ _ _ _ _ => S
  refine isi_nm_nm S.kin (S.base n1) (S.base n2) fun tk => ?_
  repeat (walk_at "st")
  exact hret _ _ _ (St.out (by assumption))

end
namespace is_groupC
noncomputable abbrev V := Program × World × Around × (Value → Shared → Prop) × (Value → Shared → Prop) × Shared
noncomputable def P (prog : Program) (w : World) (A : Around) (Q : Value → Shared → Prop) (E : Value → Shared → Prop) (s : Shared) : Prop := ∀ {sh : Addr} {v : Value} {rows : Int → Option (List Item)} {b : Bool} (W : Wd w s.heap) (R : Rm A 5 26) (hs : ShelfAt prog w s.heap sh rows) (hv : (∃ n : Int, 1 ≤ n ∧ n ≤ 4 ∧ ItemIs w s.heap v (.ref n) ∧ b = true) ∨ (∃ n its, rows n = some its ∧ ItemIs w s.heap v (.ref n) ∧ b = false) ∨ (∃ x, ItemIs w s.heap v (.lab x) ∧ b = false)) (hret : ∀ h' tk', s.heap.StaysIn h' → Q (.bool b) { s with heap := h', toks := tk' }), wpAny (model prog w) A (call (.ref 379) [.ref sh, v]) Q E s
noncomputable def wc : V := worst (α := V) (default, Cx.one.w, {}, fun _ _ => True, fun _ _ => True, Cx.one.s) (fun _ : V => (0 : Nat)) fun v => P v.1 v.2.1 v.2.2.1 v.2.2.2.1 v.2.2.2.2.1 v.2.2.2.2.2
noncomputable def prog : Program := wc.1
noncomputable def w : World := wc.2.1
noncomputable def A : Around := wc.2.2.1
noncomputable def Q : Value → Shared → Prop := wc.2.2.2.1
noncomputable def E : Value → Shared → Prop := wc.2.2.2.2.1
noncomputable def s : Shared := wc.2.2.2.2.2
theorem at_c {sh : Addr} {v : Value} {rows : Int → Option (List Item)} {b : Bool} (W : Wd w s.heap) (R : Rm A 5 26) (hs : ShelfAt prog w s.heap sh rows) (hv : (∃ n : Int, 1 ≤ n ∧ n ≤ 4 ∧ ItemIs w s.heap v (.ref n) ∧ b = true) ∨ (∃ n its, rows n = some its ∧ ItemIs w s.heap v (.ref n) ∧ b = false) ∨ (∃ x, ItemIs w s.heap v (.lab x) ∧ b = false)) (hret : ∀ h' tk', s.heap.StaysIn h' → Q (.bool b) { s with heap := h', toks := tk' }) : wpAny (model prog w) A (call (.ref 379) [.ref sh, v]) Q E s := by
  obtain ⟨g, hsh, hgs, hrs⟩ := hs.all
  have hsh' := hsh
  obtain ⟨dsh, tb, tr, t1, t2, k1, f, s1, s2, s3, lo3, s4⟩ := hsh'
  (refine' enter0 ?W ?ho ?hcd ?hroom ?hb ?hloc ?_ ?c1 ?c2 ?c3 ?c4; (case W => assumption); (case ho => k_is); (case hcd => k_is); (case hroom => exact Rm.room (by assumption)); (case hb => first | exact BindsTo.of_eq rfl | exact binds_K (Wd.K (by assumption)) rfl (by k_is) rfl rfl rfl); (case hloc => exact locs rfl); (case c1 => exact rfl); (case c2 => exact rfl); (case c3 => exact rfl); (case c4 => decide); intro _ _ _; (try dsimp only))
  rename St _ _ _ _ _ _ _ _ => S
  replace S := S.names (l' := [("value", v), ("shelf", .ref sh)]) ⟨rfl, rfl, trivial⟩
  repeat (walk_at "st")
  rename St _ _ _ _ _ _ _ _ => S
  rcases hv with ⟨n, n1, n4, ⟨r, rfl, hr⟩, rfl⟩ | ⟨n, its, hn, ⟨r, rfl, hr⟩, rfl⟩ | ⟨x, ⟨r, rfl, hr⟩, rfl⟩
  · obtain ⟨o, ho, nm, tt, kk, hG, hN, lo⟩ := hgs n n1 n4
    refine fetch_ref S.wdh R.dp (hsh.keep S.out) (hr.keep S.out) ho (.inr ⟨_, _, S.base hG⟩) fun h' tk' k => ?_
    replace S := S.keeps k
    repeat (walk_at "st")
    rename St _ _ _ _ _ _ _ _ => S
    obtain ⟨dr, t3, t4, t5, t6, k2, r1, r2⟩ := hr
    refine isi_ref_ref S.kin (S.base r1) (S.base r2) fun tk => ?_
    repeat (walk_at "st")
    rename St _ _ _ _ _ _ _ _ => S
    refine IsiPair.dict_dict (S.base hG) rfl ?_
    repeat (walk_at "st")
    rename St _ _ _ _ _ _ _ _ => S
    refine word_at S.wdh R.dp (hsh.keep S.out) (S.base hG) (hN.keep S.out) lo fun h' tk' t' k => ?_
    replace S := S.keeps k
    repeat (walk_at "st")
    refine PyProof.Rows.eq_str ?_
    rw [beq_self_eq_true]
    exact hret _ _ (St.out (by assumption))
  · obtain ⟨o, arr, kk, ho, hL, hI⟩ := hrs n its hn
    refine fetch_ref S.wdh R.dp (hsh.keep S.out) (hr.keep S.out) ho (.inl ⟨_, _, S.base hL⟩) fun h' tk' k => ?_
    replace S := S.keeps k
    repeat (walk_at "st")
    rename St _ _ _ _ _ _ _ _ => S
    obtain ⟨dr, t3, t4, t5, t6, k2, r1, r2⟩ := hr
    refine isi_ref_ref S.kin (S.base r1) (S.base r2) fun tk => ?_
    repeat (walk_at "st")
    rename St _ _ _ _ _ _ _ _ => S
    refine IsiPair.list_dict (S.base hL) rfl ?_
    repeat (walk_at "st")
    exact hret _ _ (St.out (by assumption))
  · refine fetch_self S.wdh R.dp (.inr ⟨_, hr.keep S.out⟩) fun h' tk' k => ?_
    replace S := S.keeps k
    repeat (walk_at "st")
    rename St _ _ _ _ _ _ _ _ => S
    obtain ⟨d, t3, t4, t5, k2, r1, r2⟩ := hr
    refine isi_str_ref S.kin (S.base r1) (S.base r2) fun tk => ?_
    repeat (walk_at "st")
    exact hret _ _ (St.out (by assumption))
end is_groupC
section
variable {prog : Program} {w : World} {A : Around} {Q E : Value → Shared → Prop} {s : Shared} 
/-- is_group -/
theorem is_group {sh : Addr} {v : Value} {rows : Int → Option (List Item)} {b : Bool} (W : Wd w s.heap) (R : Rm A 5 26) (hs : ShelfAt prog w s.heap sh rows)
    (hv : (∃ n : Int, 1 ≤ n ∧ n ≤ 4 ∧ ItemIs w s.heap v (.ref n) ∧ b = true) ∨ (∃ n its, rows n = some its ∧ ItemIs w s.heap v (.ref n) ∧ b = false) ∨ (∃ x, ItemIs w s.heap v (.lab x) ∧ b = false))
    (hret : ∀ h' tk', s.heap.StaysIn h' → Q (.bool b) { s with heap := h', toks := tk' }) : wpAny (model prog w) A (call (.ref 379) [.ref sh, v]) Q E s := worst_all (α := is_groupC.V) (default, Cx.one.w, {}, fun _ _ => True, fun _ _ => True, Cx.one.s) (fun _ : is_groupC.V => (0 : Nat)) (fun v => is_groupC.P v.1 v.2.1 v.2.2.1 v.2.2.2.1 v.2.2.2.2.1 v.2.2.2.2.2) (fun _ => @is_groupC.at_c) (prog, w, A, Q, E, s) W R hs hv hret
end

/-! QF2 -/
open PySem.SeqAt
section
variable {prog : Program} {w : World} {A : Around} {Q E : Value → Shared → Prop} {s : Shared} 

theorem isL {h : Heap} {a : Addr} {arr : List Value} {k : Nat} (e : h.get? a = some (lstO arr k)) : h.IsList a arr.toArray := ⟨_, e, rfl, k, rfl⟩
theorem isT {h : Heap} {a : Addr} {arr : List Value} {k : Nat} (e : h.get? a = some (tupO arr k)) : h.IsTuple a arr.toArray := ⟨_, e, rfl, k, rfl⟩

theorem rLenL {a : Addr} {arr : List Value} {k : Nat} {Q : Value → Shared → Prop} (hl : s.heap.get? a = some (lstO arr k)) (hz : arr.length < 2 ^ 62) (h : Q (.int arr.length (s.toks + 1)) { s with toks := s.toks + 1 + 1 }) :
    wpAny (model prog w) A (call (.builtin "len") [.ref a]) Q E s := by
  have sz : arr.toArray.size = arr.length := by simp
  exact len_list (isL hl) (by rw [sz]; (first | exact omq34 _ _ hz sz | omega)) (by rw [sz]; exact h)
theorem rItemL {value slice : Expr} {a : Addr} {arr : List Value} {k : Nat} {i : Int} {u : Tok} {v : Value} {Q : Value → Shared → Prop} (hl : s.heap.get? a = some (lstO arr k)) (h0 : 0 ≤ i) (h1 : i < 2 ^ 63) (hv : arr[i.toNat]? = some v) (h : Q v s)
    (hs : subscripted slice false (.ref a) (.int i u) = operate [.ref a, .int i u] (getItem (.ref a) (.int i u)) := by with_unfolding_all rfl) :
    wpAny (model prog w) A (subscriptTail value slice (.ref a) (.int i u)) Q E s :=
  tail_any (isL hl).typeIs slot_list_getitem.lookup (wpAny_getItem_list (isL hl) h0 h1 (by simpa using hv) h) hs
theorem rItemT {value slice : Expr} {a : Addr} {arr : List Value} {k : Nat} {i : Int} {u : Tok} {v : Value} {Q : Value → Shared → Prop} (hl : s.heap.get? a = some (tupO arr k)) (h0 : 0 ≤ i) (h1 : i < 2 ^ 63) (hj : seqIndex? i arr.length = some i.toNat) (hv : arr[i.toNat]? = some v) (h : Q v s)
    (hs : subscripted slice false (.ref a) (.int i u) = operate [.ref a, .int i u] (getItem (.ref a) (.int i u)) := by with_unfolding_all rfl) :
    wpAny (model prog w) A (subscriptTail value slice (.ref a) (.int i u)) Q E s := item_tupleT ⟨_, hl, rfl, k, rfl⟩ (by (first | exact omq35 _ h0 h1 | omega)) h1 hj hv h hs
end
namespace is_labelledC
noncomputable abbrev V := Program × World × Around × (Value → Shared → Prop) × (Value → Shared → Prop) × Shared
noncomputable def P (prog : Program) (w : World) (A : Around) (Q : Value → Shared → Prop) (E : Value → Shared → Prop) (s : Shared) : Prop := ∀ {sh la : Addr} {rows : Int → Option (List Item)} {b : Bool} {arr : List Value} {k : Nat} {it : Item} {its : List Item} (W : Wd w s.heap) (R : Rm A 5 26) (hs : ShelfAt prog w s.heap sh rows) (hl : s.heap.get? la = some (lstO arr k)) (hi : Its w s.heap arr (it :: its)) (hv : (∃ x, it = .lab x ∧ b = true) ∨ ∃ n : Int, it = .ref n ∧ b = false ∧ ((1 ≤ n ∧ n ≤ 4) ∨ (rows n).isSome = true)) (hret : ∀ h' tk', s.heap.StaysIn h' → Q (.bool b) { s with heap := h', toks := tk' }), wpAny (model prog w) A (call (.ref 405) [.ref sh, .ref la]) Q E s
noncomputable def wc : V := worst (α := V) (default, Cx.one.w, {}, fun _ _ => True, fun _ _ => True, Cx.one.s) (fun _ : V => (0 : Nat)) fun v => P v.1 v.2.1 v.2.2.1 v.2.2.2.1 v.2.2.2.2.1 v.2.2.2.2.2
noncomputable def prog : Program := wc.1
noncomputable def w : World := wc.2.1
noncomputable def A : Around := wc.2.2.1
noncomputable def Q : Value → Shared → Prop := wc.2.2.2.1
noncomputable def E : Value → Shared → Prop := wc.2.2.2.2.1
noncomputable def s : Shared := wc.2.2.2.2.2
theorem at_c {sh la : Addr} {rows : Int → Option (List Item)} {b : Bool} {arr : List Value} {k : Nat} {it : Item} {its : List Item} (W : Wd w s.heap) (R : Rm A 5 26) (hs : ShelfAt prog w s.heap sh rows) (hl : s.heap.get? la = some (lstO arr k)) (hi : Its w s.heap arr (it :: its)) (hv : (∃ x, it = .lab x ∧ b = true) ∨ ∃ n : Int, it = .ref n ∧ b = false ∧ ((1 ≤ n ∧ n ≤ 4) ∨ (rows n).isSome = true)) (hret : ∀ h' tk', s.heap.StaysIn h' → Q (.bool b) { s with heap := h', toks := tk' }) : wpAny (model prog w) A (call (.ref 405) [.ref sh, .ref la]) Q E s := by
  obtain ⟨g, hsh, hgs, hrs⟩ := hs.all
  have hsh' := hsh
  obtain ⟨dsh, tb, tr, t1, t2, k1, f, s1, s2, s3, lo3, s4⟩ := hsh'
  cases arr with
  | nil => exact hi.elim
  | cons v vs =>
  obtain ⟨hi1, hi2⟩ := hi
  (refine' enter0 ?W ?ho ?hcd ?hroom ?hb ?hloc ?_ ?c1 ?c2 ?c3 ?c4; (case W => assumption); (case ho => k_is); (case hcd => k_is); (case hroom => exact Rm.room (by assumption)); (case hb => first | exact BindsTo.of_eq rfl | exact binds_K (Wd.K (by assumption)) rfl (by k_is) rfl rfl rfl); (case hloc => exact locs rfl); (case c1 => exact rfl); (case c2 => exact rfl); (case c3 => exact rfl); (case c4 => decide); intro _ _ _; (try dsimp only))
  rename St _ _ _ _ _ _ _ _ => S
  replace S := S.names (l' := [("items", .ref la), ("shelf", .ref sh)]) ⟨rfl, rfl, trivial⟩
  repeat (walk_at "st")
  rename St _ _ _ _ _ _ _ _ => S
  have h0 := S.new (.head _)
  refine cmp_ofNotEq ?_
  refine RcNeAt.lists_lengths (isL (S.base hl)) (isL h0) (by simp) (R.dp (d' := 0) (u' := 0)).units prog w _ _ ?_
  repeat (walk_at "st")
  rename St _ _ _ _ _ _ _ _ => S
  have hL := isL (S.base hl)
  refine tail_any hL.typeIs slot_list_getitem.lookup (wpAny_getItem_list hL (by decide) (by decide) (x := v) (by simp) ?_) (by rfl)
  repeat (walk_at "st")
  rename St _ _ _ _ _ _ _ _ => S
  rcases hv with ⟨x, rfl, rfl⟩ | ⟨n, rfl, rfl, hn⟩
  · obtain ⟨r, rfl, hr⟩ := hi1
    refine fetch_self S.wdh R.dp (.inr ⟨_, hr.keep S.out⟩) fun h' tk' k => ?_
    replace S := S.keeps k
    repeat (walk_at "st")
    rename St _ _ _ _ _ _ _ _ => S
    obtain ⟨d, t3, t4, t5, k2, r1, r2⟩ := hr
    refine isi_str_str S.kin (S.base r1) (S.base r2) fun tk => ?_
    exact hret _ _ (St.out (by assumption))
  · obtain ⟨r, rfl, hr⟩ := hi1
    rcases hn with ⟨n1, n4⟩ | hn
    · obtain ⟨o, ho, nm, tt, kk, hG, hN, lo⟩ := hgs n n1 n4
      refine fetch_ref S.wdh R.dp (hsh.keep S.out) (hr.keep S.out) ho (.inr ⟨_, _, S.base hG⟩) fun h' tk' k => ?_
      replace S := S.keeps k
      repeat (walk_at "st")
      rename St _ _ _ _ _ _ _ _ => S
      refine isi_dict_str S.kin (S.base hG) fun tk => ?_
      exact hret _ _ (St.out (by assumption))
    · obtain ⟨its', hn⟩ := Option.isSome_iff_exists.mp hn
      obtain ⟨o, arr, kk, ho, hL, hI⟩ := hrs n its' hn
      refine fetch_ref S.wdh R.dp (hsh.keep S.out) (hr.keep S.out) ho (.inl ⟨_, _, S.base hL⟩) fun h' tk' k => ?_
      replace S := S.keeps k
      repeat (walk_at "st")
      rename St _ _ _ _ _ _ _ _ => S
      refine isi_list_str S.kin (S.base hL) fun tk => ?_
      exact hret _ _ (St.out (by assumption))

end is_labelledC
section
variable {prog : Program} {w : World} {A : Around} {Q E : Value → Shared → Prop} {s : Shared} 
/-- is_labelled -/
theorem is_labelled {sh la : Addr} {rows : Int → Option (List Item)} {b : Bool} {arr : List Value} {k : Nat} {it : Item} {its : List Item} (W : Wd w s.heap) (R : Rm A 5 26) (hs : ShelfAt prog w s.heap sh rows)
    (hl : s.heap.get? la = some (lstO arr k)) (hi : Its w s.heap arr (it :: its))
    (hv : (∃ x, it = .lab x ∧ b = true) ∨ ∃ n : Int, it = .ref n ∧ b = false ∧ ((1 ≤ n ∧ n ≤ 4) ∨ (rows n).isSome = true))
    (hret : ∀ h' tk', s.heap.StaysIn h' → Q (.bool b) { s with heap := h', toks := tk' }) : wpAny (model prog w) A (call (.ref 405) [.ref sh, .ref la]) Q E s := worst_all (α := is_labelledC.V) (default, Cx.one.w, {}, fun _ _ => True, fun _ _ => True, Cx.one.s) (fun _ : is_labelledC.V => (0 : Nat)) (fun v => is_labelledC.P v.1 v.2.1 v.2.2.1 v.2.2.2.1 v.2.2.2.2.1 v.2.2.2.2.2) (fun _ => @is_labelledC.at_c) (prog, w, A, Q, E, s) W R hs hl hi hv hret
/-- what a row's word makes of its parts -/
noncomputable def joined (word : Str) (bs : List Bool) : Option Bool :=
  if word = "And" then some (!bs.any (fun b => b == false)) else if word = "Or" then some (bs.any fun b => b == true) else if word = "Not" then (match bs with | [b] => some (!b) | _ => none) else none

theorem mem_bools {bs : List Bool} {y : Value} (h : y ∈ (bs.map Value.bool).toArray) : ∃ b, y = .bool b ∧ b ∈ bs := by
  simp only [List.mem_toArray, List.mem_map] at h
  obtain ⟨b, hb, rfl⟩ := h
  exact ⟨b, rfl, hb⟩
noncomputable def vB (c : Bool) : Value → Bool
  | .bool b => b == c
  | _ => false
theorem any_vB (bs : List Bool) (c : Bool) : (bs.map Value.bool).toArray.any (vB c) = bs.any (fun b => b == c) := by
  simp [List.any_map, vB, Function.comp_def]

end
namespace joined_stateC
noncomputable abbrev V := Program × World × Around × (Value → Shared → Prop) × (Value → Shared → Prop) × Shared
noncomputable def P (prog : Program) (w : World) (A : Around) (Q : Value → Shared → Prop) (E : Value → Shared → Prop) (s : Shared) : Prop := ∀ {nm la : Addr} {word : Str} {bs : List Bool} {k : Nat} {b : Bool} (W : Wd w s.heap) (R : Rm A 2 10) (hn : IsNm w s.heap nm word) (hl : s.heap.get? la = some (lstO (bs.map .bool) k)) (hj : joined word bs = some b) (hret : ∀ h' tk', s.heap.StaysIn h' → Q (.bool b) { s with heap := h', toks := tk' }), wpAny (model prog w) A (call (.ref 386) [.ref nm, .ref la]) Q E s
noncomputable def wc : V := worst (α := V) (default, Cx.one.w, {}, fun _ _ => True, fun _ _ => True, Cx.one.s) (fun _ : V => (0 : Nat)) fun v => P v.1 v.2.1 v.2.2.1 v.2.2.2.1 v.2.2.2.2.1 v.2.2.2.2.2
noncomputable def prog : Program := wc.1
noncomputable def w : World := wc.2.1
noncomputable def A : Around := wc.2.2.1
noncomputable def Q : Value → Shared → Prop := wc.2.2.2.1
noncomputable def E : Value → Shared → Prop := wc.2.2.2.2.1
noncomputable def s : Shared := wc.2.2.2.2.2
theorem at_c {nm la : Addr} {word : Str} {bs : List Bool} {k : Nat} {b : Bool} (W : Wd w s.heap) (R : Rm A 2 10) (hn : IsNm w s.heap nm word) (hl : s.heap.get? la = some (lstO (bs.map .bool) k)) (hj : joined word bs = some b) (hret : ∀ h' tk', s.heap.StaysIn h' → Q (.bool b) { s with heap := h', toks := tk' }) : wpAny (model prog w) A (call (.ref 386) [.ref nm, .ref la]) Q E s := by
  obtain ⟨d, t3, t4, k2, r1, r2⟩ := hn
  (refine' enter0 ?W ?ho ?hcd ?hroom ?hb ?hloc ?_ ?c1 ?c2 ?c3 ?c4; (case W => assumption); (case ho => k_is); (case hcd => k_is); (case hroom => exact Rm.room (by assumption)); (case hb => first | exact BindsTo.of_eq rfl | exact binds_K (Wd.K (by assumption)) rfl (by k_is) rfl rfl rfl); (case hloc => exact locs rfl); (case c1 => exact rfl); (case c2 => exact rfl); (case c3 => exact rfl); (case c4 => decide); intro _ _ _; (try dsimp only))
  rename St _ _ _ _ _ _ _ _ => S
  replace S := S.names (l' := [("parts", .ref la), ("first", .ref nm)]) ⟨rfl, rfl, trivial⟩
  repeat (walk_at "st")
  rename St _ _ _ _ _ _ _ _ => S
  refine isi_nm_nm S.kin (S.base r1) (S.base r2) fun tk => ?_
  repeat (walk_at "st")
  rename St _ _ _ _ _ _ _ _ => S
  refine PyProof.Rows.eq_str ?_
  unfold joined at hj
  by_cases h1 : word = "And"
  · subst h1
    rw [if_pos rfl] at hj
    cases hj
    rw [beq_self_eq_true]
    repeat (walk_at "st")
    rename St _ _ _ _ _ _ _ _ => S
    refine notIn_listAt (vB false) (isL (S.base hl)) (fun y hy => ?_) ?_
    · obtain ⟨b, rfl, _⟩ := mem_bools hy
      exact EqAt.bool_bool b false
    · rw [any_vB]
      repeat (walk_at "st")
      exact hret _ _ (St.out (by assumption))
  · rw [if_neg h1] at hj
    rw [show (word == Str.ofString "And") = false from beq_eq_false_iff_ne.mpr h1]
    repeat (walk_at "st")
    rename St _ _ _ _ _ _ _ _ => S
    refine PyProof.Rows.eq_str ?_
    by_cases h2 : word = "Or"
    · subst h2
      rw [if_pos rfl] at hj
      cases hj
      rw [beq_self_eq_true]
      repeat (walk_at "st")
      rename St _ _ _ _ _ _ _ _ => S
      refine in_listAt (vB true) (isL (S.base hl)) (fun y hy => ?_) ?_
      · obtain ⟨b, rfl, _⟩ := mem_bools hy
        exact EqAt.bool_bool b true
      · rw [any_vB]
        repeat (walk_at "st")
        exact hret _ _ (St.out (by assumption))
    · rw [if_neg h2] at hj
      rw [show (word == Str.ofString "Or") = false from beq_eq_false_iff_ne.mpr h2]
      repeat (walk_at "st")
      rename St _ _ _ _ _ _ _ _ => S
      refine PyProof.Rows.eq_str ?_
      by_cases h3 : word = "Not"
      · subst h3
        rw [if_pos rfl] at hj
        rw [beq_self_eq_true]
        cases bs with
        | nil => cases hj
        | cons c r =>
        cases r with
        | cons _ _ => cases hj
        | nil =>
        cases hj
        repeat (walk_at "st")
        rename St _ _ _ _ _ _ _ _ => S
        refine rLenL (S.base hl) (by simp) ?_
        repeat (walk_at "st")
        rename St _ _ _ _ _ _ _ _ => S
        refine ite_pos rfl ?_
        repeat (walk_at "st")
        rename St _ _ _ _ _ _ _ _ => S
        refine rItemL (S.base hl) (by decide) (by decide) rfl ?_
        repeat (walk_at "st")
        exact hret _ _ (St.out (by assumption))
      · rw [if_neg h3] at hj; cases hj
end joined_stateC
section
variable {prog : Program} {w : World} {A : Around} {Q E : Value → Shared → Prop} {s : Shared} 
theorem joined_state {nm la : Addr} {word : Str} {bs : List Bool} {k : Nat} {b : Bool} (W : Wd w s.heap) (R : Rm A 2 10) (hn : IsNm w s.heap nm word)
    (hl : s.heap.get? la = some (lstO (bs.map .bool) k)) (hj : joined word bs = some b)
    (hret : ∀ h' tk', s.heap.StaysIn h' → Q (.bool b) { s with heap := h', toks := tk' }) : wpAny (model prog w) A (call (.ref 386) [.ref nm, .ref la]) Q E s := worst_all (α := joined_stateC.V) (default, Cx.one.w, {}, fun _ _ => True, fun _ _ => True, Cx.one.s) (fun _ : joined_stateC.V => (0 : Nat)) (fun v => joined_stateC.P v.1 v.2.1 v.2.2.1 v.2.2.2.1 v.2.2.2.2.1 v.2.2.2.2.2) (fun _ => @joined_stateC.at_c) (prog, w, A, Q, E, s) W R hn hl hj hret
end

/-! QR2 -/
section
variable {prog : Program} {w : World} {A : Around} {E : Value → Shared → Prop} {s : Shared} {h₀ h h' : Heap} {L : Addr} {env : Env} {cl : List (Str × Addr)} {l : List (Str × Value)} {lc : List (Str × Option Value)} {news news' : List (Addr × Obj)}

/-- a list's slice, of step one -/
theorem sliceL {H : Heap} {gg : Array GenState} {dd : Drawn} {tk : Nat} {os : OsState} {la : Addr} {arr vs' : List Value} {k : Nat} {vl vu : Value} {lo hi : Option Int} {Q : Value → Shared → Prop} (S : St w h₀ L cl l lc news H) (hl : H.get? la = some (lstO arr k)) (pl : IsPart vl lo) (pu : IsPart vu hi)
    (e : slicePick arr.toArray lo hi none = vs'.toArray) (hsz : arr.length ≤ sizeLine)
    (h : ∀ a h', H.StaysIn h' → H.get? a = none → St w h₀ L cl l lc ((a, lstO vs' 0) :: news) h' → Q (.ref a) ⟨h', gg, dd, tk, os⟩) :
    (⟨H.push { cls := .type "slice", data := .fields #[vl, vu, .none] }, gg, dd, tk, os⟩ : Shared).TypeIs (.ref la) "list" ∧
      wpAny (model prog w) A (getItem (.ref la) (.ref H.objs.size)) Q E ⟨H.push { cls := .type "slice", data := .fields #[vl, vu, .none] }, gg, dd, tk, os⟩ := by
  have hl' : (H.push { cls := .type "slice", data := .fields #[vl, vu, .none] }).get? la = some (lstO arr k) := Heap.get?_push_of_some _ hl
  refine ⟨⟨_, hl', rfl⟩, wpAny_getItem_list_slice (isL hl') (Heap.IsSliceOf.new ..) pl pu .none (by decide) ?_ (by simpa using hsz)⟩
  rw [e]
  have S1 := S.keeps (stays_push { cls := .type "slice", data := .fields #[vl, vu, .none] })
  exact h _ _ (stays_trans (stays_push _) (stays_push _)) (Heap.get?_none_of_le (by rw [Heap.size_push]; exact Nat.le_succ _)) (S1.push _ rfl)
theorem slice_from (arr : List Value) (a : Nat) (ha : a ≤ arr.length) : slicePick arr.toArray (some (a : Int)) none none = (arr.drop a).toArray := by
  have := kmk_pick_nat (lo := some (a : Int)) (hi := none) arr.toArray (a := a) (b := arr.length) (by
    simp only [sliceBounds, Option.getD_none, List.size_toArray]
    simp
    omega)
  rw [this]
  congr 1
  rw [List.take_of_length_le]
  simp
/-- max of a list of ints: the library's rule in words of St -/
theorem rMax {la : Addr} {vs : List Value} {k : Nat} {ns : List Int} {Q : Value → Shared → Prop} (S : St w h₀ L cl l lc news s.heap) (hh : A.handled = none) (hl : s.heap.get? la = some (lstO vs k)) (hi : IntsAre vs ns) (hne : 0 < ns.length)
    (h : ∀ h' M (t : Tok) tk, St w h₀ L cl l lc news h' → M ∈ ns → (∀ a, a ∈ ns → a ≤ M) → Q (.int M t) { s with heap := h', toks := tk }) :
    wpAny (model prog w) A (call (.builtin "max") [.ref la]) Q E s := by
  obtain ⟨m, F, N, back⟩ := S.lib
  exact max_list_N hh F N (isL hl) hi hne fun h' M t tk F' N' => h h' M t tk (back h' F' N')
theorem memoItem {V : Nat → List Value → Prop} {n j i : Nat} {o : Obj} {d a : Addr} {t u : Tok} {mm : Nat} {value slice : Expr} {Q : Value → Shared → Prop} (m : MemoO prog w V n h o j) (k : h.StaysIn s.heap) (hd : s.heap.get? d = some o) (ha : s.heap.get? a = some (keyO i t u mm)) (hj : j ≤ i) (hi : i < n) (hu : A.units + 1 < cLine)
    (hq : ∀ tk b mb items, s.heap.get? b = some (tupO items mb) → V i items → Q (.ref b) { s with toks := tk })
    (hs : subscripted slice false (.ref d) (.ref a) = operate [.ref d, .ref a] (getItem (.ref d) (.ref a)) := by with_unfolding_all rfl) :
    wpAny (model prog w) A (subscriptTail value slice (.ref d) (.ref a)) Q E s := by
  obtain ⟨xs, D, _⟩ := m.ofH k hd
  exact tail_any D.typeIs slot_dict_getitem.lookup (memoGet m k hd ha hj hi hu hq) hs
end

/-! QR3 -/
section
variable {prog : Program} {w : World} {A : Around} {E : Value → Shared → Prop} {s : Shared} {h₀ h h' : Heap} {L : Addr} {env : Env} {cl : List (Str × Addr)} {l : List (Str × Value)} {lc : List (Str × Option Value)} {news news' : List (Addr × Obj)}

theorem rDict0 {pos : Pos} {Q : Value → Shared → Prop} (S : St w h₀ L cl l lc news s.heap)
    (h : ∀ a h', (a == sysModules) = false → s.heap.StaysIn h' → St w h₀ L cl l lc ((a, { cls := .type "dict", data := .dict #[] }) :: news) h' → Q (.ref a) { s with heap := h' }) : wpAny (model prog w) A (eval (.Dict [] [] pos) env) Q E s := by
  refine wpAny_Dict_empty ?_
  refine h _ _ ?_ (stays_push _) (S.push _ rfl)
  have := Heap.lt_size (get59 S.kin)
  rw [beq_eq_false_iff_ne]
  intro q
  rw [q] at this
  exact absurd this (by decide)

/-- a for over a list whose turns may raise -/
theorem forListR {target : Expr} {body orelse : List Stmt} {Q : Flow → Shared → Prop} {EE EF : Value → Shared → Prop} {la : Addr} {arr : List Value} {k : Nat}
    (J : Nat → Heap → List (Str × Value) → List (Str × Option Value) → List (Addr × Obj) → Prop)
    (S : St w h₀ L cl l lc news s.heap) (hh : A.handled = none) (hl : h₀.get? la = some (lstO arr k))
    (h0 : J 0 h₀ l lc news)
    (turn : ∀ i v h₀' l lc news h tk I o, (∃ vs, o.data = .fields vs) → arr[i]? = some v → h₀.StaysIn h₀' → J i h₀' l lc news → St w h₀' L cl l lc ((I, o) :: news) h →
      wpAny (model prog w) A (assign target env v) (fun _ s₂ => wpAny (model prog w) A (execs body env) (fun f s₃ => match f with
          | .next => TurnedR w s h₀' L cl (J (i + 1)) I o s₃
          | .cont => TurnedR w s h₀' L cl (J (i + 1)) I o s₃
          | .brk => Q .next s₃
          | .ret v => Q (.ret v) s₃)
        (fun e s' => wpAny (model prog w) A (leaving env e) (fun _ s'' => EE e s'') EF s') s₂) (fun e s' => wpAny (model prog w) A (leaving env e) (fun _ s'' => EE e s'') EF s') { s with heap := h, toks := tk })
    (done : ∀ h₀' l lc news h tk, h₀.StaysIn h₀' → J arr.length h₀' l lc news → St w h₀' L cl l lc news h →
      wpAny (model prog w) A (execs orelse env) Q (fun e s' => wpAny (model prog w) A (leaving env e) (fun _ s'' => EE e s'') EF s') { s with heap := h, toks := tk })
    (hgo : (∀ I v, letOwnedTupleGo target (.ref I) v = pure ()) ∨ ∃ elts x pos, target = .Tuple elts x pos := by first | exact .inl (by intro _ _; rfl) | exact .inr ⟨_, _, _, rfl⟩) :
    wpAny (model prog w) A (pyIter (.ref la)) (fun it s₂ => codeAny (model prog w) A (.forLoop target it body orelse env) (fun r s' => match r with | .ok f => Q f s' | .error e => cameBackBy (model prog w) A env (fun e s' => wpAny (model prog w) A (leaving env e) (fun _ s'' => EE e s'') EF s') e s') s₂) E s := by
  refine forList (R := fun r s' => match r with | .ok f => Q f s' | .error e => cameBackBy (model prog w) A env (fun e s' => wpAny (model prog w) A (leaving env e) (fun _ s'' => EE e s'') EF s') e s')
    (fun i h₀' l lc news => h₀.StaysIn h₀' ∧ J i h₀' l lc news) S hh (S.base hl) ⟨stays_refl, h0⟩ (fun i h₀' l lc news h hJ S => S.base (hJ.1 _ _ hl)) (fun i v h₀' l lc news h tk I o hof hv hJ S => ?_) (fun h₀' l lc news h tk hJ S => ?_) hgo
  · refine wpAny_passesOwn PassesOwn.leaving (wpAny_mono (turn i v h₀' l lc news h tk I o hof hv hJ.1 hJ.2 S) (fun _ s₂ h₂ => wpAny_passesOwn PassesOwn.leaving (wpAny_mono h₂ (fun f s₃ h₃ => ?_) fun _ _ e => e)) fun _ _ e => e)
    cases f with
    | next => obtain ⟨a, b, c, d, e, f, g1, g2, g3, g4⟩ := h₃; exact ⟨a, b, c, d, e, f, g1, ⟨stays_trans hJ.1 g2, g3⟩, g4⟩
    | cont => obtain ⟨a, b, c, d, e, f, g1, g2, g3, g4⟩ := h₃; exact ⟨a, b, c, d, e, f, g1, ⟨stays_trans hJ.1 g2, g3⟩, g4⟩
    | brk => exact h₃
    | ret v => exact h₃
  · exact wpAny_passesOwn PassesOwn.leaving (done h₀' l lc news h tk hJ.1 hJ.2 S)

theorem atKey_putAt {K : Type} [DecidableEq K] (xs : List (K × Addr × Value)) (k k' : K) (v : Value) : atKey (xs.map (putAt k v)) k' = if k' = k then (atKey xs k').map (fun p => (p.1, v)) else atKey xs k' := by
  induction xs with
  | nil => simp [atKey]
  | cons x xs ih =>
    by_cases q : x.1 = k
    · by_cases q2 : x.1 = k'
      · have : k' = k := q2 ▸ q
        subst this
        simp [atKey, putAt, q]
      · have h2 : ¬ k = k' := fun e => q2 (q.trans e)
        simpa [atKey, putAt, q, h2, Ne.symm h2] using ih
    · by_cases q2 : x.1 = k'
      · have : ¬ k' = k := fun e => q (q2.trans e)
        simp [atKey, putAt, q, q2, this]
      · simpa [atKey, putAt, q, q2] using ih
/-- known[mark] = what is there -/
theorem memoSet2 {V : Nat → List Value → Prop} {n j i : Nat} {o : Obj} {d : Addr} {pre post : List (Addr × Obj)} {a b : Addr} {t u : Tok} {mm mb : Nat} {items : List Value} {Q : Unit → Shared → Prop} (m : MemoO prog w V n h₀ o j) (hj : j ≤ i) (S : St w h₀ L cl l lc (pre ++ (d, o) :: post) s.heap) (nt : NoTup (pre ++ (d, o) :: post)) (ha : s.heap.get? a = some (keyO i t u mm))
    (hb : s.heap.get? b = some (tupO items mb)) (hv : V i items) (hi : i < n) (hn : n ≤ 100) (hu : A.units + 1 < cLine)
    (hq : ∀ h' o' tk h₀', h₀.StaysIn h₀' → (hideAll s.heap (loose L cl lc (pre ++ (d, o) :: post))).StaysIn h₀' → MemoO prog w V n h₀' o' j → St w h₀' L cl l lc (pre ++ (d, o') :: post) h' → Heap.SameBut d s.heap h' → Q () { s with heap := h', toks := tk }) :
    wpAny (model prog w) A (setItem (.ref d) (.ref a) (.ref b)) Q E s := by
  have hd := S.new (o := o) (a := d) (by simp)
  obtain ⟨S', kz⟩ := S.freeze
  have m' := m.frz S nt S.out
  have hb' := S.tup nt hb rfl rfl
  have m'' := m'
  obtain ⟨es, ep, xs, a1, a2, a3, a4, a5, a6, a7, a8⟩ := m''
  have D : s.heap.DictOfH (tupleKind (intKind prog w)) d xs := ⟨o, es, ep, hd, a1, a2, a3, fun x hx => by
    obtain ⟨o, its, m, e, r⟩ := a4 x hx; exact ⟨o, its, m, S'.base e, r⟩, a5⟩
  refine wpAny_setItem_heap (tupleKind_room_in1 hu) (key_is ha) D (fun h' D' hs => ?_) (by rw [sizeLine_eq]; (first | exact omq36 _ _ _ _ hi hn a6 | omega))
  obtain ⟨a0, t0, m0, its0, hold, _⟩ := a7 i hj hi
  rw [storedH_old hold] at D'
  obtain ⟨o', es', ep', b1, b2, b3, b4, b5, b6⟩ := D'
  have nc : ∀ v, o.data ≠ .cell v := m.noCell
  have S'' := S'.turn nc (fun b x hb e => (hs.2 b (by simpa using hb)).trans e) b1
  refine hq h' o' _ _ kz stays_refl ⟨es', ep', _, b2, b3, b4, fun x hx => ?_, b6, by rw [List.length_map]; exact a6, fun i' h1 h2 => ?_, fun i' h1 => ?_⟩ S'' hs
  · obtain ⟨y, hy, rfl⟩ := List.mem_map.mp hx
    have := a4 y hy
    unfold putAt
    split <;> exact this
  · obtain ⟨a', t', m', its, e, e2⟩ := a7 i' h1 h2
    by_cases q : i' = i
    · subst q
      rw [atKey_putAt, if_pos rfl, e]
      exact ⟨a', b, mb, items, rfl, hb', hv⟩
    · rw [atKey_putAt, if_neg (fun q2 => q (by have := List.cons.inj q2; omega)), e]
      exact ⟨a', t', m', its, rfl, e2⟩
  · rw [atKey_putAt, a8 i' h1]
    split <;> rfl
end

/-! QR4 -/
section
variable {prog : Program} {w : World} {A : Around} {E : Value → Shared → Prop} {s : Shared} {h₀ h h' : Heap} {L : Addr} {env : Env} {cl : List (Str × Addr)} {l : List (Str × Value)} {lc : List (Str × Option Value)} {news news' : List (Addr × Obj)}

theorem rMApp {d : Addr} {arr : List Value} {k : Nat} {pl : Sem Bool} {Q : Value × List Value → Shared → Prop} (hl : s.heap.get? d = some (lstO arr k)) (h : Q (.builtin "list.append", [.ref d]) s) : wpAny (model prog w) A (getMethod (.ref d) "append" pl) Q E s :=
  getMethod_list_append hl rfl rfl h
theorem rMExt {d : Addr} {arr : List Value} {k : Nat} {pl : Sem Bool} {Q : Value × List Value → Shared → Prop} (hl : s.heap.get? d = some (lstO arr k)) (h : Q (.builtin "list.extend", [.ref d]) s) : wpAny (model prog w) A (getMethod (.ref d) "extend" pl) Q E s :=
  getMethod_list_of PySem.F.slot_list_extend PySem.F.type_list_extend (isL hl) ⟨_, hl, rfl⟩ h
theorem rExt {pre post : List (Addr × Obj)} {d b : Addr} {arr arr2 : List Value} {k k2 : Nat} {Q : Value → Shared → Prop} (S : St w h₀ L cl l lc (pre ++ (d, lstO arr k) :: post) s.heap) (hb : s.heap.get? b = some (lstO arr2 k2)) (hsz : arr.length + arr2.length ≤ sizeLine)
    (h : ∀ h' k', St w h₀ L cl l lc (pre ++ (d, lstO (arr ++ arr2) k') :: post) h' → (∀ b x, b ∉ [d] → s.heap.get? b = some x → h'.get? b = some x) → Q .none { s with heap := h' }) :
    wpAny (model prog w) A (call (.builtin "list.extend") [.ref d, .ref b]) Q E s := by
  have hl : s.heap.get? d = some (lstO arr k) := S.new (by simp)
  refine call_meets PySem.F.slot_list_extend (isL hl).typeIs PySem.F.entry_list_extend (PySem.F.args_list_extend_2 _ _) (AutoSeq1.list_extend_list_list_0 d arr.toArray k b arr2.toArray k2 ?_ (by simp; (first | exact omq37 _ _ _ hsz | omega)) (by simp; (first | exact omq38 _ _ _ hsz | omega))) ⟨hl, hb, ?_⟩
  · simp [Builtin.List.listTooLong]
    intro _; (first | exact omq39 _ _ _ hsz | omega)
  · have hs : Heap.SameBut d s.heap (s.heap.update d (Obj.mapSeq fun x => x ++ arr2.toArray)) := Heap.SameBut.update ..
    refine h _ (if (arr.toArray ++ arr2.toArray).size == arr.toArray.size then k else k + 1) (S.upd' (fun v e => nomatch e) hs ?_) (fun b x hb e => (hs.2 b (by simpa using hb)).trans e)
    rw [Heap.get?_update_self _ hl rfl]
    simp [Obj.mapSeq]
end

/-! QF3 -/
section
variable {prog : Program} {w : World} {A : Around} {Q E : Value → Shared → Prop} {s : Shared} 
end
namespace mkFaultC
noncomputable abbrev V := Program × World × Around × (Value → Shared → Prop) × (Value → Shared → Prop) × Shared
noncomputable def P (prog : Program) (w : World) (A : Around) (Q : Value → Shared → Prop) (E : Value → Shared → Prop) (s : Shared) : Prop := ∀ {msg : Str} {t : Tok} (W : Wd w s.heap) (R : Rm A 3 10) (hq : ∀ h' tk' e dct vs sl, s.heap.StaysIn h' → s.heap.get? e = none → h'.get? e = some ⟨.ref 59, dct, .fields vs, sl⟩ → vs[1]? = some .none → (∃ a0, vs[0]? = some a0) → Q (.ref e) { s with heap := h', toks := tk' }), wpAny (model prog w) A (call (.ref 59) [.str msg t]) Q E s
noncomputable def wc : V := worst (α := V) (default, Cx.one.w, {}, fun _ _ => True, fun _ _ => True, Cx.one.s) (fun _ : V => (0 : Nat)) fun v => P v.1 v.2.1 v.2.2.1 v.2.2.2.1 v.2.2.2.2.1 v.2.2.2.2.2
noncomputable def prog : Program := wc.1
noncomputable def w : World := wc.2.1
noncomputable def A : Around := wc.2.2.1
noncomputable def Q : Value → Shared → Prop := wc.2.2.2.1
noncomputable def E : Value → Shared → Prop := wc.2.2.2.2.1
noncomputable def s : Shared := wc.2.2.2.2.2
theorem at_c {msg : Str} {t : Tok} (W : Wd w s.heap) (R : Rm A 3 10) (hq : ∀ h' tk' e dct vs sl, s.heap.StaysIn h' → s.heap.get? e = none → h'.get? e = some ⟨.ref 59, dct, .fields vs, sl⟩ → vs[1]? = some .none → (∃ a0, vs[0]? = some a0) → Q (.ref e) { s with heap := h', toks := tk' }) : wpAny (model prog w) A (call (.ref 59) [.str msg t]) Q E s := by
  refine call59 W.K ?_
  generalize hH : (s.heap.push { cls := .type "tuple", data := .seq [Value.str msg t].toArray }).push (excObj s.heap.objs.size) = H
  have k : s.heap.StaysIn H := fun b o e => hH ▸ Heap.get?_push_of_some _ (Heap.get?_push_of_some _ e)
  have he : H.get? (s.heap.objs.size + 1) = some (excObj s.heap.objs.size) := by subst hH; heap_get
  have hfr : s.heap.get? (s.heap.objs.size + 1) = none := Heap.get?_none_of_le (Nat.le_succ _)
  generalize s.heap.objs.size + 1 = e at he hfr ⊢
  generalize s.heap.objs.size = t0 at he ⊢
  have k0 : s.heap.StaysIn (hideAll H [e]) := fun b o q => hideAll_get _ (k _ _ q) (by rw [List.mem_singleton]; rintro rfl; rw [hfr] at q; cases q)
  have R' : Rm (A.under (.builtin "type.__call__" ⟨.ref 59 :: [.str msg t], []⟩)) 2 9 := R.underT
  refine' enter (news := [(e, excObj t0)]) ?hn ?hnd ?W ?ho ?hcd ?hroom ?hb ?hloc ?_ ?c1 ?c2 ?c3 ?c4
  (case hn => intro p hp; rw [List.mem_singleton.mp hp]; exact he)
  (case hnd => simp)
  (case W => exact W.keeps k0)
  (case ho => k_is)
  (case hcd => k_is)
  (case hroom => exact Rm.room (by assumption))
  (case hb => exact binds_K (s := { s with heap := H }) (W.K.keeps k) rfl (by k_is) rfl rfl rfl)
  (case hloc => exact locs rfl)
  (case c1 => exact rfl)
  (case c2 => exact rfl)
  (case c3 => exact rfl)
  (case c4 => decide)
  intro h₁ tk₁ S k₁
  dsimp only at S k₁ ⊢
  replace S := S.names (l' := [("at", .int (-1) _), ("what", .str msg t), ("self", .ref e)]) ⟨rfl, rfl, rfl, trivial⟩
  repeat (walk_at "st")
  obtain ⟨g, m, F, G, Wg, hm⟩ := S.fr
  refine method_type (T := "Exception") F Wg.K (by rfl) (by decide +kernel) (v := .builtin XI) (by rfl) rfl ?_
  repeat (walk_at "st")
  refine init59 S.kin (S.new (.head _)) ?_
  have S1 := (S.keeps (stays_push { cls := .type "tuple", data := .seq [Value.str msg t].toArray }))
  have S2 := S1.upd' (pre := []) (o' := { cls := .ref 59, data := .fields #[.ref h₁.objs.size, .none, .none, .none, .bool false, .none] }) (fun v q => nomatch q) (Heap.SameBut.update _ _ (Obj.mapFields (·.setIfInBounds 0 (.ref h₁.objs.size)))) ((Heap.get?_update_self _ (S1.new (.head _)) rfl).trans rfl)
  clear S S1
  repeat (walk_at "st")
  refine plainObj_wpAny_Assign_Attribute ?_
  repeat (walk_at "st")
  refine store59 S2.kin (S2.new (.head _)) (.inl rfl) rfl rfl fun h2 tk2 dx mB c1 hB => ?_
  obtain ⟨q1, q2, q3, q4⟩ : _ ∧ _ ∧ _ ∧ _ := by
    rcases c1 with ⟨_, r⟩ | ⟨r, _⟩
    · exact r
    · cases r
  obtain ⟨od, es, n, d1, d2⟩ := ns1_obj hB
  have S3 := S2.head (h' := h2) (fun v q => nomatch q) (fun b x hb hx => q3 b x (by simpa using hb) hx) q4
  have S4 := S3.addl d1 (fun q => by obtain ⟨oL, _, _, hL, _⟩ := S2.here; rw [← q] at hL; rw [q1] at hL; cases hL) (by
    cases q : (hideAll H [e]).get? dx with
    | none => exact q
    | some o => have := S2.base q; rw [q1] at this; cases this) (by
    intro hm
    have hm' : dx = e := by simpa using hm
    have := S2.new (.head _)
    rw [hm'] at q1; rw [q1] at this; cases this)
  clear S2 S3
  repeat (walk_at "st")
  refine plainObj_wpAny_Assign_Attribute ?_
  repeat (walk_at "st")
  have ne : dx ≠ e := fun q => by
    have := S4.nd
    rw [List.map_cons, List.nodup_cons] at this
    exact this.1 (by rw [q]; exact .head _)
  obtain rfl : mB = fun y => if y = ("what" : Str) then some (.str msg t) else none := funext q2
  refine store59 S4.kin (S4.new (.tail _ (.head _))) (.inr ⟨dx, _, ["what"], rfl, ne, hB, PySem.Within.cons "what" _ PySem.Within.nil, by decide⟩) rfl rfl fun h3 tk3 dx' mB' c3 hB' => ?_
  rcases c3 with ⟨r, _⟩ | ⟨r, sb⟩
  · cases r
  · cases r
    obtain ⟨od', es', n', d1', d2'⟩ := ns1_obj hB'
    have S5 := S4.head (h' := h3) (fun v q => by rw [d2] at q; cases q) (fun b x hb hx => (sb.2 b (by simpa using hb)).trans hx) d1'
    repeat (walk_at "st")
    refine ⟨rfl, hq h3 _ e (some dx) _ _ (stays_trans k0 S5.fz) hfr (S5.new (.tail _ (.head _))) rfl ⟨_, rfl⟩⟩

end mkFaultC
section
variable {prog : Program} {w : World} {A : Around} {Q E : Value → Shared → Prop} {s : Shared} 
theorem mkFault {msg : Str} {t : Tok} (W : Wd w s.heap) (R : Rm A 3 10)
    (hq : ∀ h' tk' e dct vs sl, s.heap.StaysIn h' → s.heap.get? e = none → h'.get? e = some ⟨.ref 59, dct, .fields vs, sl⟩ → vs[1]? = some .none → (∃ a0, vs[0]? = some a0) → Q (.ref e) { s with heap := h', toks := tk' }) : wpAny (model prog w) A (call (.ref 59) [.str msg t]) Q E s := worst_all (α := mkFaultC.V) (default, Cx.one.w, {}, fun _ _ => True, fun _ _ => True, Cx.one.s) (fun _ : mkFaultC.V => (0 : Nat)) (fun v => mkFaultC.P v.1 v.2.1 v.2.2.1 v.2.2.2.1 v.2.2.2.2.1 v.2.2.2.2.2) (fun _ => @mkFaultC.at_c) (prog, w, A, Q, E, s) W R hq
theorem raiseHere {base h₀ h₁ : Heap} {outer : List Env} {L : Addr} {env : Env} {cl : List (Str × Addr)} {l : List (Str × Value)} {lc : List (Str × Option Value)} {news : List (Addr × Obj)} {msg : Str} {x : Nat} {p1 p2 p3 pos : Pos} {Q : Flow → Shared → Prop} {EE : Value → Shared → Prop}
    (S : St w h₀ L cl l lc news s.heap) (B : Below A base outer h₁) (k1 : h₁.StaysIn h₀) (R : Rm A 4 14) (he : Env0 env L) (hf : env.frame = some L) (hx : env.kindOf "TreeFault" = some .globalImplicit)
    (herr : ∀ e h' tk', Fly base outer h₁ e h' → EE (.ref e) { s with heap := h', toks := tk' }) :
    wpAny (model prog w) (A.deeper env) (exec (.Raise (some (.Call (.Name "TreeFault" p1) [.Constant (.str msg) x p2] [] p3)) none pos) env) Q
      (fun e s' => wpAny (model prog w) (A.deeper env) (leaving env e) (fun _ s'' => EE e s'') EE s') s := by
  refine rRaise (w := w) R.hh ?_
  refine Call_ ?_
  refine rG S (by k_is) ?_ he hx
  refine rCW S (by k_is) ?_
  repeat (walk_at "st")
  refine mkFault S.wdh R.dp fun h' tk' e dct vs sl k1' e1 e2 e3 e4 => ?_
  refine ⟨e, _, vs, rfl, (S.keeps k1').kin, e2, rfl, rfl, e3, ?_⟩
  exact leaveNew B k1 S ⟨k1', e1, dct, vs, sl, e2, e3, e4⟩ hf he.fn fun h2 fly => herr e h2 _ fly
end

/-! QF4 -/
section
variable {prog : Program} {w : World} {A : Around} {Q E : Value → Shared → Prop} {s : Shared} 
theorem mem_stays {h h' : Heap} {news : List (Addr × Obj)} (D : Mem h h' [] news) : h.StaysIn h' := fun b o e => D.keep b o e (by simp [away])
theorem pair {r : Addr} {n : Int} (W : Wd w s.heap) (R : Rm A 2 8) (hr : IsRef w s.heap r n)
    (h : ∀ h' tk a t u, s.heap.StaysIn h' → h'.get? a = some (tupO [.int n t, .int 0 u] 0) → Q (.ref a) { s with heap := h', toks := tk }) :
    wpAny (model prog w) A (call (.ref 251) [.ref r]) Q E s := by
  obtain ⟨dr, t1, t2, t3, t4, k, r1, r2⟩ := hr
  (refine' enter0 ?W ?ho ?hcd ?hroom ?hb ?hloc ?_ ?c1 ?c2 ?c3 ?c4; (case W => assumption); (case ho => k_is); (case hcd => k_is); (case hroom => exact Rm.room (by assumption)); (case hb => first | exact BindsTo.of_eq rfl | exact binds_K (Wd.K (by assumption)) rfl (by k_is) rfl rfl rfl); (case hloc => exact locs rfl); (case c1 => exact rfl); (case c2 => exact rfl); (case c3 => exact rfl); (case c4 => decide); intro _ _ _; (try dsimp only))
  rename St _ _ _ _ _ _ _ _ => S
  replace S := S.names (l' := [("self", .ref r)]) ⟨rfl, trivial⟩
  repeat (walk_at "st")
  rename St _ _ _ _ _ _ _ _ => S
  exact h _ _ _ _ _ S.out (S.new (.head _))

/-- an expression's chain -/
structure Chain where
  n : Nat
  cnt : Nat → Nat
  gs : Nat → List Nat
  nx : Nat → Nat
  H : Nat → Nat
structure Chain.Ok (C : Chain) : Prop where
  nx_lt : ∀ i, i < C.n → C.nx i < C.n
  gs_in : ∀ i g, i < C.n → g ∈ C.gs i → 1 ≤ g ∧ g ≤ 4
  H1 : ∀ i, 1 ≤ C.H i
  H0 : ∀ i, i < C.n → C.cnt i = 0 → C.H i = 1
  HS : ∀ i, i < C.n → 0 < C.cnt i → C.H i = C.H (C.nx i) + 1 ∨ (21 ≤ C.H i ∧ 21 ≤ C.H (C.nx i))
  ord : ∀ i, i < C.n → 0 < C.cnt i → C.H i ≤ 20 → C.nx i = i + 1
  last : ∀ i, i < C.n → C.cnt i = 0 → i + 1 = C.n
  some : ∀ i, i < C.n → 0 < C.cnt i + (C.gs i).length
  small : ∀ i, i < C.n → C.cnt i ≤ 3 ∧ (C.gs i).length ≤ 2
  n100 : C.n ≤ 100
noncomputable def Chain.parts (C : Chain) (i : Nat) : List Item := List.replicate (C.cnt i) (.ref ((10 + C.nx i : Nat) : Int)) ++ (C.gs i).map fun g => .ref ((g : Nat) : Int)
/-- what the memo of expression_told holds -/
noncomputable def VE (C : Chain) (tr : Nat → Bool) (i : Nat) (items : List Value) : Prop := ∃ u, items = [.bool (tr i), .int (C.H i : Nat) u]


noncomputable abbrev lc391 (sh sd kd : Addr) (dv : Value) : List (Str × Option Value) := [("shelf", some (.ref sh)), ("states", some (.ref sd)), ("depth", some dv), ("known", some (.ref kd))]
/-- tuples of a truth and a number -/
noncomputable def Tups (h : Heap) : List Value → List (Bool × Nat) → Prop
  | [], [] => True
  | v :: vs, (b, n) :: r => (∃ t u m, v = .ref t ∧ h.get? t = some (tupO [.bool b, .int (n : Int) u] m)) ∧ Tups h vs r
  | _, _ => False
theorem Tups.keep {h h' : Heap} (k : h.StaysIn h') : ∀ {vs : List Value} {bs : List (Bool × Nat)}, Tups h vs bs → Tups h' vs bs
  | [], [], _ => trivial
  | _ :: _, (_, _) :: _, ⟨⟨t, u, m, e1, e2⟩, r⟩ => ⟨⟨t, u, m, e1, k _ _ e2⟩, Tups.keep k r⟩
  | [], _ :: _, x => x
  | _ :: _, [], x => x
theorem Tups.length {h : Heap} : ∀ {vs : List Value} {bs : List (Bool × Nat)}, Tups h vs bs → vs.length = bs.length
  | [], [], _ => rfl
  | _ :: _, (_, _) :: _, ⟨_, r⟩ => by rw [List.length_cons, List.length_cons, Tups.length r]
  | [], _ :: _, x => x.elim
  | _ :: _, [], x => x.elim
theorem Tups.snoc {h : Heap} {t : Addr} {b : Bool} {n : Nat} {u : Tok} {m : Nat} (e : h.get? t = some (tupO [.bool b, .int (n : Int) u] m)) : ∀ {vs : List Value} {bs : List (Bool × Nat)}, Tups h vs bs → Tups h (vs ++ [.ref t]) (bs ++ [(b, n)])
  | [], [], _ => ⟨⟨t, u, m, rfl, e⟩, trivial⟩
  | _ :: _, (_, _) :: _, ⟨a, r⟩ => ⟨a, Tups.snoc e r⟩
  | [], _ :: _, x => x.elim
  | _ :: _, [], x => x.elim
theorem Tups.get {h : Heap} : ∀ {vs : List Value} {bs : List (Bool × Nat)}, Tups h vs bs → ∀ {i : Nat} {v : Value}, vs[i]? = some v → ∃ b n t u m, bs[i]? = some (b, n) ∧ v = .ref t ∧ h.get? t = some (tupO [.bool b, .int (n : Int) u] m)
  | [], [], _, _, _, e => by simp at e
  | v :: vs, (b, n) :: bs, ⟨⟨t, u, m, e1, e2⟩, r⟩, i, x, e => by
    cases i with
    | zero => rw [List.getElem?_cons_zero] at e; cases e; exact ⟨b, n, t, u, m, rfl, e1, e2⟩
    | succ i => rw [List.getElem?_cons_succ] at e ⊢; exact Tups.get r e
  | [], _ :: _, x, _, _, _ => x.elim
  | _ :: _, [], x, _, _, _ => x.elim

/-- the ledger's head stands still from here on -/
theorem St.still {h₀ h : Heap} {L : Addr} {cl : List (Str × Addr)} {l : List (Str × Value)} {lc : List (Str × Option Value)} {news : List (Addr × Obj)} {a : Addr} {o : Obj} (S : St w h₀ L cl l lc ((a, o) :: news) h) (ho : ∀ v, o.data ≠ .cell v) :
    St w (hideAll h (loose L cl lc news)) L cl l lc news h ∧ h₀.StaysIn (hideAll h (loose L cl lc news)) ∧ (hideAll h (loose L cl lc news)).get? a = some o := by
  have P := S.nw (a, o) (.head _)
  have nd := S.nd
  rw [List.map_cons, List.nodup_cons] at nd
  exact ⟨S.tail.freeze.1, S.tail.freeze.2, S.tail.frz P.1 P.2.1 nd.1 ho⟩

end
namespace told_groupC
noncomputable abbrev V := Program × World × Around × (Value → Shared → Prop) × (Value → Shared → Prop) × Shared
noncomputable def P (prog : Program) (w : World) (A : Around) (Q : Value → Shared → Prop) (E : Value → Shared → Prop) (s : Shared) : Prop := ∀ {sh sd r kd : Addr} {g : Nat} {st : Nat → Bool} {rows : Int → Option (List Item)} {fs : Int → Option Value} {dv : Value} (W : Wd w s.heap) (R : Rm A 8 40) (hs : ShelfAt prog w s.heap sh rows) (hst : s.heap.MapOf (intKind prog w) sd fs) (lo : (sd == sysModules) = false) (hr : IsRef w s.heap r (g : Int)) (g1 : 1 ≤ g) (g4 : g ≤ 4) (hfs : fs (g : Int) = some (.bool (st g))) (hret : ∀ h' tk' t u m, s.heap.StaysIn h' → s.heap.get? t = none → h'.get? t = some (tupO [.bool (st g), .int ((0 : Nat) : Int) u] m) → Q (.ref t) { s with heap := h', toks := tk' }), wpAny (model prog w) A (call (.ref 391) [.ref sh, .ref sd, .ref r, dv, .ref kd]) Q E s
noncomputable def wc : V := worst (α := V) (default, Cx.one.w, {}, fun _ _ => True, fun _ _ => True, Cx.one.s) (fun _ : V => (0 : Nat)) fun v => P v.1 v.2.1 v.2.2.1 v.2.2.2.1 v.2.2.2.2.1 v.2.2.2.2.2
noncomputable def prog : Program := wc.1
noncomputable def w : World := wc.2.1
noncomputable def A : Around := wc.2.2.1
noncomputable def Q : Value → Shared → Prop := wc.2.2.2.1
noncomputable def E : Value → Shared → Prop := wc.2.2.2.2.1
noncomputable def s : Shared := wc.2.2.2.2.2
theorem at_c {sh sd r kd : Addr} {g : Nat} {st : Nat → Bool} {rows : Int → Option (List Item)} {fs : Int → Option Value} {dv : Value} (W : Wd w s.heap) (R : Rm A 8 40) (hs : ShelfAt prog w s.heap sh rows) (hst : s.heap.MapOf (intKind prog w) sd fs) (lo : (sd == sysModules) = false) (hr : IsRef w s.heap r (g : Int)) (g1 : 1 ≤ g) (g4 : g ≤ 4) (hfs : fs (g : Int) = some (.bool (st g))) (hret : ∀ h' tk' t u m, s.heap.StaysIn h' → s.heap.get? t = none → h'.get? t = some (tupO [.bool (st g), .int ((0 : Nat) : Int) u] m) → Q (.ref t) { s with heap := h', toks := tk' }) : wpAny (model prog w) A (call (.ref 391) [.ref sh, .ref sd, .ref r, dv, .ref kd]) Q E s := by
  refine' enterC (news := []) [("value", .ref r)] [("shelf", some (.ref sh)), ("states", some (.ref sd)), ("depth", some dv), ("known", some (.ref kd))] ?hn ?hnd ?W ?ho ?hcd ?hroom ?hb ?hk1 ?hl ?hc ?_ ?c1 ?c2 ?c3
  (case hn => intro p hp; cases hp)
  (case hnd => simp)
  (case W => exact W)
  (case ho => k_is)
  (case hcd => k_is)
  (case hroom => exact Rm.room (by assumption))
  (case hb => exact rfl)
  (case hk1 => exact rfl)
  (case hl => exact ⟨rfl, trivial⟩)
  (case hc => exact ⟨⟨⟨_, rfl⟩, rfl⟩, ⟨⟨_, rfl⟩, rfl⟩, ⟨⟨_, rfl⟩, rfl⟩, ⟨⟨_, rfl⟩, rfl⟩, trivial⟩)
  (case c1 => exact rfl)
  (case c2 => exact rfl)
  (case c3 => exact rfl)
  intro h₁ tk₁ S k₁
  replace S : St w s.heap _ _ _ _ _ _ := S
  repeat (walk_at "st")
  rename St _ _ _ _ _ _ _ _ => S
  refine is_group S.wdh R.dp (hs.keep S.out) (.inl ⟨(g : Int), by (first | exact omq40 _ g1 g4 | omega), by (first | exact omq41 _ g1 g4 | omega), ⟨r, rfl, hr.keep S.out⟩, rfl⟩) fun h' tk' k => ?_
  replace S := S.keeps k
  have hr' := hr
  obtain ⟨dr, t3, t4, t5, t6, k2, r1, r2⟩ := hr'
  repeat (walk_at "st")
  rename St _ _ _ _ _ _ _ _ => S
  refine rMethGet (mapKeep hst S.out) ?_
  repeat (walk_at "st")
  rename St _ _ _ _ _ _ _ _ => S
  refine rGet2 (intKind_is prog w _ _) (mapKeep hst S.out) lo ?_
  rw [hfs, Option.getD_some]
  repeat (walk_at "st")
  rename St _ _ _ _ _ _ _ _ => S
  exact hret _ _ _ _ _ S.out (S.nw _ (.head _)).2.2 (S.new (.head _))

end told_groupC
section
variable {prog : Program} {w : World} {A : Around} {Q E : Value → Shared → Prop} {s : Shared} 
theorem told_group {sh sd r kd : Addr} {g : Nat} {st : Nat → Bool} {rows : Int → Option (List Item)} {fs : Int → Option Value} {dv : Value} (W : Wd w s.heap) (R : Rm A 8 40) (hs : ShelfAt prog w s.heap sh rows) (hst : s.heap.MapOf (intKind prog w) sd fs) (lo : (sd == sysModules) = false)
    (hr : IsRef w s.heap r (g : Int)) (g1 : 1 ≤ g) (g4 : g ≤ 4) (hfs : fs (g : Int) = some (.bool (st g)))
    (hret : ∀ h' tk' t u m, s.heap.StaysIn h' → s.heap.get? t = none → h'.get? t = some (tupO [.bool (st g), .int ((0 : Nat) : Int) u] m) → Q (.ref t) { s with heap := h', toks := tk' }) : wpAny (model prog w) A (call (.ref 391) [.ref sh, .ref sd, .ref r, dv, .ref kd]) Q E s := worst_all (α := told_groupC.V) (default, Cx.one.w, {}, fun _ _ => True, fun _ _ => True, Cx.one.s) (fun _ : told_groupC.V => (0 : Nat)) (fun v => told_groupC.P v.1 v.2.1 v.2.2.1 v.2.2.2.1 v.2.2.2.2.1 v.2.2.2.2.2) (fun _ => @told_groupC.at_c) (prog, w, A, Q, E, s) W R hs hst lo hr g1 g4 hfs hret
end
namespace toldC
noncomputable abbrev V := Program × World × Chain × (Nat → Bool) × (Nat → Bool) × (Int → Option (List Item)) × Nat × Nat × Nat × Nat × Around × Shared × (Value → Shared → Prop) × (Value → Shared → Prop) × Heap × List Env × Addr × Addr × Addr × Addr × (Int → Option Value) × Tok
noncomputable def P (prog : Program) (w : World) (C : Chain) (tr : Nat → Bool) (st : Nat → Bool) (rows : Int → Option (List Item)) (k : Nat) (d : Nat) (i : Nat) (j : Nat) (A : Around) (s : Shared) (Q : Value → Shared → Prop) (E : Value → Shared → Prop) (base : Heap) (outer : List Env) (kd : Addr) (sh : Addr) (sd : Addr) (r : Addr) (fs : Int → Option Value) (td : Tok) : Prop := ∀ (ok : C.Ok) (word : Nat → Str) (hrows : ∀ i, i < C.n → rows ((10 + i : Nat) : Int) = some (.nm (word i) :: C.parts i)) (htr : ∀ i, i < C.n → C.H i ≤ 20 → joined (word i) (List.replicate (C.cnt i) (tr (C.nx i)) ++ (C.gs i).map st) = some (tr i)) (o : Obj), d + k = 20 → i < C.n → j ≤ C.n → Wd w (hideAll s.heap [kd]) → Rm A (k + 10) (3 * k + 50) → Below A base outer (hideAll s.heap [kd]) → s.heap.get? kd = some o → MemoO prog w (VE C tr) C.n (hideAll s.heap [kd]) o j → (kd == sysModules) = false →
      IsRef w (hideAll s.heap [kd]) r ((10 + i : Nat) : Int) → ShelfAt prog w (hideAll s.heap [kd]) sh rows → (hideAll s.heap [kd]).MapOf (intKind prog w) sd fs → (sd == sysModules) = false → (∀ g : Nat, 1 ≤ g → g ≤ 4 → fs (g : Int) = some (.bool (st g))) →
      (d + C.H i ≤ 20 → ∀ h' tk' t u m o', (∀ b x, b ∉ [kd] → s.heap.get? b = some x → h'.get? b = some x) → h'.get? kd = some o' → MemoO prog w (VE C tr) C.n (hideAll h' [kd]) o' (min j i) → t ≠ kd → h'.get? t = some (tupO [.bool (tr i), .int (C.H i : Nat) u] m) → Q (.ref t) { s with heap := h', toks := tk' }) →
      (20 < d + C.H i → ∀ e h' tk', Fly base outer (hideAll s.heap [kd]) e h' → E (.ref e) { s with heap := h', toks := tk' }) →
      wpAny (model prog w) A (call (.ref 391) [.ref sh, .ref sd, .ref r, .int (d : Int) td, .ref kd]) Q E s
noncomputable def wc : V := worst (α := V) (default, Cx.one.w, { n := 0, cnt := fun _ => 0, gs := fun _ => [], nx := fun _ => 0, H := fun _ => 0 }, fun _ => false, fun _ => false, fun _ => none, (0 : Nat), (0 : Nat), (0 : Nat), (0 : Nat), {}, Cx.one.s, fun _ _ => True, fun _ _ => True, default, [], (0 : Nat), (0 : Nat), (0 : Nat), (0 : Nat), fun _ => none, (0 : Nat)) (fun v : V => v.2.2.2.2.2.2.1) fun v => P v.1 v.2.1 v.2.2.1 v.2.2.2.1 v.2.2.2.2.1 v.2.2.2.2.2.1 v.2.2.2.2.2.2.1 v.2.2.2.2.2.2.2.1 v.2.2.2.2.2.2.2.2.1 v.2.2.2.2.2.2.2.2.2.1 v.2.2.2.2.2.2.2.2.2.2.1 v.2.2.2.2.2.2.2.2.2.2.2.1 v.2.2.2.2.2.2.2.2.2.2.2.2.1 v.2.2.2.2.2.2.2.2.2.2.2.2.2.1 v.2.2.2.2.2.2.2.2.2.2.2.2.2.2.1 v.2.2.2.2.2.2.2.2.2.2.2.2.2.2.2.1 v.2.2.2.2.2.2.2.2.2.2.2.2.2.2.2.2.1 v.2.2.2.2.2.2.2.2.2.2.2.2.2.2.2.2.2.1 v.2.2.2.2.2.2.2.2.2.2.2.2.2.2.2.2.2.2.1 v.2.2.2.2.2.2.2.2.2.2.2.2.2.2.2.2.2.2.2.1 v.2.2.2.2.2.2.2.2.2.2.2.2.2.2.2.2.2.2.2.2.1 v.2.2.2.2.2.2.2.2.2.2.2.2.2.2.2.2.2.2.2.2.2
noncomputable def prog : Program := wc.1
noncomputable def w : World := wc.2.1
noncomputable def C : Chain := wc.2.2.1
noncomputable def tr : Nat → Bool := wc.2.2.2.1
noncomputable def st : Nat → Bool := wc.2.2.2.2.1
noncomputable def rows : Int → Option (List Item) := wc.2.2.2.2.2.1
noncomputable def k₀ : Nat := wc.2.2.2.2.2.2.1
noncomputable def d : Nat := wc.2.2.2.2.2.2.2.1
noncomputable def i : Nat := wc.2.2.2.2.2.2.2.2.1
noncomputable def j : Nat := wc.2.2.2.2.2.2.2.2.2.1
noncomputable def A : Around := wc.2.2.2.2.2.2.2.2.2.2.1
noncomputable def s : Shared := wc.2.2.2.2.2.2.2.2.2.2.2.1
noncomputable def Q : Value → Shared → Prop := wc.2.2.2.2.2.2.2.2.2.2.2.2.1
noncomputable def E : Value → Shared → Prop := wc.2.2.2.2.2.2.2.2.2.2.2.2.2.1
noncomputable def base : Heap := wc.2.2.2.2.2.2.2.2.2.2.2.2.2.2.1
noncomputable def outer : List Env := wc.2.2.2.2.2.2.2.2.2.2.2.2.2.2.2.1
noncomputable def kd : Addr := wc.2.2.2.2.2.2.2.2.2.2.2.2.2.2.2.2.1
noncomputable def sh : Addr := wc.2.2.2.2.2.2.2.2.2.2.2.2.2.2.2.2.2.1
noncomputable def sd : Addr := wc.2.2.2.2.2.2.2.2.2.2.2.2.2.2.2.2.2.2.1
noncomputable def r : Addr := wc.2.2.2.2.2.2.2.2.2.2.2.2.2.2.2.2.2.2.2.1
noncomputable def fs : Int → Option Value := wc.2.2.2.2.2.2.2.2.2.2.2.2.2.2.2.2.2.2.2.2.1
noncomputable def td : Tok := wc.2.2.2.2.2.2.2.2.2.2.2.2.2.2.2.2.2.2.2.2.2
theorem at_c (IH : ∀ v : V, v.2.2.2.2.2.2.1 < k₀ → P v.1 v.2.1 v.2.2.1 v.2.2.2.1 v.2.2.2.2.1 v.2.2.2.2.2.1 v.2.2.2.2.2.2.1 v.2.2.2.2.2.2.2.1 v.2.2.2.2.2.2.2.2.1 v.2.2.2.2.2.2.2.2.2.1 v.2.2.2.2.2.2.2.2.2.2.1 v.2.2.2.2.2.2.2.2.2.2.2.1 v.2.2.2.2.2.2.2.2.2.2.2.2.1 v.2.2.2.2.2.2.2.2.2.2.2.2.2.1 v.2.2.2.2.2.2.2.2.2.2.2.2.2.2.1 v.2.2.2.2.2.2.2.2.2.2.2.2.2.2.2.1 v.2.2.2.2.2.2.2.2.2.2.2.2.2.2.2.2.1 v.2.2.2.2.2.2.2.2.2.2.2.2.2.2.2.2.2.1 v.2.2.2.2.2.2.2.2.2.2.2.2.2.2.2.2.2.2.1 v.2.2.2.2.2.2.2.2.2.2.2.2.2.2.2.2.2.2.2.1 v.2.2.2.2.2.2.2.2.2.2.2.2.2.2.2.2.2.2.2.2.1 v.2.2.2.2.2.2.2.2.2.2.2.2.2.2.2.2.2.2.2.2.2) : P prog w C tr st rows k₀ d i j A s Q E base outer kd sh sd r fs td := by
  unfold P
  intro ok word hrows htr o
  have ih : ∀ k, k < k₀ → ∀ (d i j : Nat) (A : Around) (s : Shared) (Q E : Value → Shared → Prop) (base : Heap) (outer : List Env) (kd sh sd r : Addr) (o : Obj) (fs : Int → Option Value) (td : Tok), d + k = 20 → i < C.n → j ≤ C.n → Wd w (hideAll s.heap [kd]) → Rm A (k + 10) (3 * k + 50) → Below A base outer (hideAll s.heap [kd]) → s.heap.get? kd = some o → MemoO prog w (VE C tr) C.n (hideAll s.heap [kd]) o j → (kd == sysModules) = false →
      IsRef w (hideAll s.heap [kd]) r ((10 + i : Nat) : Int) → ShelfAt prog w (hideAll s.heap [kd]) sh rows → (hideAll s.heap [kd]).MapOf (intKind prog w) sd fs → (sd == sysModules) = false → (∀ g : Nat, 1 ≤ g → g ≤ 4 → fs (g : Int) = some (.bool (st g))) →
      (d + C.H i ≤ 20 → ∀ h' tk' t u m o', (∀ b x, b ∉ [kd] → s.heap.get? b = some x → h'.get? b = some x) → h'.get? kd = some o' → MemoO prog w (VE C tr) C.n (hideAll h' [kd]) o' (min j i) → t ≠ kd → h'.get? t = some (tupO [.bool (tr i), .int (C.H i : Nat) u] m) → Q (.ref t) { s with heap := h', toks := tk' }) →
      (20 < d + C.H i → ∀ e h' tk', Fly base outer (hideAll s.heap [kd]) e h' → E (.ref e) { s with heap := h', toks := tk' }) →
      wpAny (model prog w) A (call (.ref 391) [.ref sh, .ref sd, .ref r, .int (d : Int) td, .ref kd]) Q E s := fun k hk d i j A s Q E base outer kd sh sd r o fs td => IH (prog, w, C, tr, st, rows, k, d, i, j, A, s, Q, E, base, outer, kd, sh, sd, r, fs, td) hk ok word hrows htr o
  clear IH
  intro hdk hi hj W R B hkd hm lo hr hs hst losd hfs hret herr
  have R' : Rm A 8 40 := R.le (by (first | exact omq42 _ _ hdk | omega)) (by (first | exact omq43 _ _ hdk | omega))
  have R0 : ∀ env, Rm (A.deeper env) 8 40 := fun env => R.dp (by (first | exact omq44 _ _ hdk | omega)) (by (first | exact omq45 _ _ hdk | omega))
  refine' enterC (news := [(kd, o)]) [("value", .ref r)] [("shelf", some (.ref sh)), ("states", some (.ref sd)), ("depth", some (.int d td)), ("known", some (.ref kd))] ?hn ?hnd ?W ?ho ?hcd ?hroom ?hb ?hk1 ?hl ?hc ?_ ?c1 ?c2 ?c3
  (case hn => intro p hp; rw [List.mem_singleton.mp hp]; exact hkd)
  (case hnd => simp)
  (case W => exact W)
  (case ho => k_is)
  (case hcd => k_is)
  (case hroom => exact Rm.room (by assumption))
  (case hb => exact rfl)
  (case hk1 => exact rfl)
  (case hl => exact ⟨rfl, trivial⟩)
  (case hc => exact ⟨⟨⟨_, rfl⟩, rfl⟩, ⟨⟨_, rfl⟩, rfl⟩, ⟨⟨_, rfl⟩, rfl⟩, ⟨⟨_, rfl⟩, rfl⟩, trivial⟩)
  (case c1 => exact rfl)
  (case c2 => exact rfl)
  (case c3 => exact rfl)
  intro h₁ tk₁ S k₁
  have nt : NoTup [(kd, o)] := by
    intro p hp; rw [List.mem_singleton.mp hp]
    obtain ⟨es, ep, xs, e1, _⟩ := hm
    left
    show o.cls ≠ _
    rw [e1.1]; decide
  have lz1 := S.lz
  replace S : St w (hideAll s.heap [kd]) _ _ _ _ _ _ := S
  obtain ⟨g, hsh, hgs, hrs⟩ := hs.all
  obtain ⟨ro, arr, kr, hgo, hL, hI⟩ := hrs _ _ (hrows i hi)
  obtain ⟨v0, vs, rfl⟩ : ∃ v0 vs, arr = v0 :: vs := by
    cases arr with
    | nil => exact hI.elim
    | cons a b => exact ⟨a, b, rfl⟩
  obtain ⟨nmA, rfl, hnm⟩ := hI.1
  obtain ⟨tl, htl0⟩ : ∃ tl, tl = List.replicate (C.cnt i) (tr (C.nx i), C.H (C.nx i)) ++ (C.gs i).map fun g => (st g, 0) := ⟨_, rfl⟩
  have htll : tl.length = C.cnt i + (C.gs i).length := by rw [htl0]; simp
  repeat (walk_at "st")
  rename St _ _ _ _ _ _ _ _ => S
  refine is_group S.wdh R'.dp (hs.keep S.out) (.inr (.inl ⟨_, _, hrows i hi, ⟨r, rfl, hr.keep S.out⟩, rfl⟩)) fun h' tk' k => ?_
  replace S := S.keeps k
  repeat (walk_at "st")
  rename St _ _ _ _ _ _ _ _ => S
  have hr' := hr
  obtain ⟨dr, t3, t4, t5, t6, k2, r1, r2⟩ := hr'
  refine isi_ref_ref S.kin (S.base r1) (S.base r2) fun tk => ?_
  repeat (walk_at "st")
  rename St _ _ _ _ _ _ _ _ => S
  refine pair S.wdh R'.dp (hr.keep S.out) fun h' tk' mk tm um k hmk => ?_
  replace S := S.keeps k
  replace hmk := S.tup nt hmk rfl rfl
  obtain ⟨S2, kz⟩ := S.freeze
  clear S
  have kz0 := kz
  replace hm := hm.keep kz; replace hs := hs.keep kz; replace hsh := hsh.keep kz; replace hst := mapKeep hst kz; replace hr := hr.keep kz; replace hL := kz _ _ hL; replace hI := hI.keep kz
  generalize hideAll h' _ = h₂ at S2 hm hs hsh hst hr hL hI kz0 hmk kz
  clear kz k r1 r2
  have hsh' := hsh
  obtain ⟨dsh, tb, tr', t1', t2', k1', f', s1, s2, s3, lo3, s4⟩ := hsh'
  repeat (walk_at "st")
  rename St _ _ _ _ _ _ _ _ => S
  refine fetch_ref S.wdh R'.dp (hsh.keep S.out) (hr.keep S.out) hgo (.inl ⟨_, _, S.base hL⟩) fun h' tk' k => ?_
  replace S := S.keeps k
  clear k
  repeat (walk_at "st")
  rename St _ _ _ _ _ _ _ _ => S
  have room : ∀ env, (A.deeper env).units + 1 < cLine := fun env => by have := R'.hu; have := cLine_is; show A.units + 3 + 1 < cLine; (first | exact omq46 _ _ (by assumption) this | omega)
  have hlv : vs.length = C.cnt i + (C.gs i).length := by rw [Its.length hI.2]; simp [Chain.parts]
  have hlen : (Value.ref nmA :: vs).length = 1 + (C.cnt i + (C.gs i).length) := by rw [List.length_cons, hlv]; (first | exact omq47 _ _ | omega)
  have hsome := ok.some i hi
  have hsmall := ok.small i hi
  have hH1 := ok.H1 i
  refine memoIn hm S.out (S.new (.head _)) (S.base hmk) hi (room _) lo fun tk => ?_
  repeat (walk_at "st")
  by_cases hji : j ≤ i
  · rw [if_pos (decide_eq_true hji)]
    repeat (walk_at "st")
    rename St _ _ _ _ _ _ _ _ => S
    refine memoItem hm S.out (S.new (.head _)) (S.base hmk) hji hi (room _) fun tk b mb items hb hv => ?_
    obtain ⟨u, rfl⟩ := hv
    repeat (walk_at "st")
    refine rItemT hb (by decide) (by decide) rfl rfl ?_
    repeat (walk_at "st")
    rename St _ _ _ _ _ _ _ _ => S
    refine IsiPair.list_list (S.base hL) rfl ?_
    repeat (walk_at "st")
    rename St _ _ _ _ _ _ _ _ => S
    refine rLenL (S.base hL) (by rw [hlen]; (first | exact omq48 _ _ _ _ hlv hlen hsmall | omega)) ?_
    repeat (walk_at "st")
    refine ite_neg (by rw [hlen]; simp only [decide_eq_true_eq]; (first | exact omq49 _ _ _ _ hlv hlen hsome | omega)) ?_
    repeat (walk_at "st")
    by_cases hd : 20 < d + C.H i
    · refine ite_pos (by simp; (first | exact omq50 _ _ _ hdk hd | omega)) ?_
      repeat (walk_at "st")
      rename St _ _ _ _ _ _ _ _ => S
      exact raiseHere S B kz0 (R'.le (by decide) (by decide)) ⟨rfl, rfl, rfl, rfl⟩ rfl rfl fun e h' tk' fly => herr hd e h' tk' fly
    · refine ite_neg (by simp; (first | exact omq51 _ _ _ hdk hd | omega)) ?_
      repeat (walk_at "st")
      rename St _ _ _ _ _ _ _ _ => S
      refine memoIn hm S.out (S.new (.head _)) (S.base hmk) hi (room _) lo fun tk => ?_
      repeat (walk_at "st")
      refine ite_pos (decide_eq_true hji) ?_
      repeat (walk_at "st")
      rename St _ _ _ _ _ _ _ _ => S
      refine memoItem hm S.out (S.new (.head _)) (S.base hmk) hji hi (room _) fun tk b mb items hb hv => ?_
      obtain ⟨u, rfl⟩ := hv
      have kk : (hideAll s.heap [kd]).StaysIn _ := stays_trans kz0 S.out
      refine hret (by (first | exact omq52 _ _ _ hdk hd | omega)) _ _ b u mb o (fun b x hb hx => kk _ _ (hideAll_get _ hx hb)) (S.new (.head _)) (by rw [Nat.min_eq_left hji]; exact hm.keep fun b x hx => hideAll_get _ (S.base hx) (fun q => by rw [List.mem_singleton.mp q, (S.nw _ (.head _)).2.2] at hx; cases hx)) (fun q => ?_) hb
      rw [q, S.new (.head _)] at hb
      cases hb
      rcases nt _ (.head _) with q | q
      · exact q rfl
      · exact q _ _ rfl
  · rw [if_neg (by simpa using hji)]
    repeat (walk_at "st")
    rename St _ _ _ _ _ _ _ _ => S
    refine IsiPair.list_list (S.base hL) rfl ?_
    repeat (walk_at "st")
    rename St _ _ _ _ _ _ _ _ => S
    refine rLenL (S.base hL) (by rw [hlen]; (first | exact omq48 _ _ _ _ hlv hlen hsmall | omega)) ?_
    repeat (walk_at "st")
    refine ite_neg (by rw [hlen]; simp only [decide_eq_true_eq]; (first | exact omq49 _ _ _ _ hlv hlen hsome | omega)) ?_
    repeat (walk_at "st")
    by_cases hd : d = 20
    · refine ite_pos (by simp; (first | exact omq53 _ _ hdk hd | omega)) ?_
      repeat (walk_at "st")
      rename St _ _ _ _ _ _ _ _ => S
      exact raiseHere S B kz0 (R'.le (by decide) (by decide)) ⟨rfl, rfl, rfl, rfl⟩ rfl rfl fun e h' tk' fly => herr (by (first | exact omq54 _ _ _ hdk hH1 hd | omega)) e h' tk' fly
    · refine ite_neg (by simp; (first | exact omq55 _ _ hdk hd | omega)) ?_
      repeat (walk_at "st")
      rename St _ _ _ _ _ _ _ _ => S
      refine memoIn hm S.out (S.new (.head _)) (S.base hmk) hi (room _) lo fun tk => ?_
      repeat (walk_at "st")
      refine ite_neg (by simpa using hji) ?_
      repeat (walk_at "st")
      rename St _ _ _ _ _ _ _ _ => S
      refine rLCA _ ?_
      repeat (walk_at "st")
      refine sliceL S (S.base hL) (.int 1 _) .none (vs' := vs) (slice_from (Value.ref nmA :: vs) 1 (by (first | exact omq56 _ _ _ _ hlv hlen hsome | omega))) (by rw [sizeLine_eq, hlen]; (first | exact omq57 _ _ _ _ hlv hlen hsmall | omega)) fun la h' k1 hn1 S => ?_
      obtain ⟨S3, kz3, hla⟩ := S.still (fun v q => nomatch q)
      clear S
      generalize hideAll h' _ = h₃ at S3 kz3 hla
      have hI3 : Its w h₃ vs (C.parts i) := Its.keep kz3 hI.2
      by_cases hd2 : 20 < d + C.H i
      · have hcnt : 0 < C.cnt i := by
          rcases Nat.eq_zero_or_pos (C.cnt i) with q | q
          · have := ok.H0 i hi q; (first | exact omq58 _ _ _ _ hdk hd hd2 this | omega)
          · exact q
        have hHn : 20 < d + 1 + C.H (C.nx i) := by rcases ok.HS i hi hcnt with q | q <;> (first | exact omq59 _ _ _ _ hdk hd2 q | exact omq60 _ _ _ _ hdk q | omega)
        refine lcList (fun i' h₀' lc' news' acc => i' = 0 ∧ h₀' = h₃ ∧ news' = [(kd, o)] ∧ lc' = lc391 sh sd kd (.int (d : Int) td)) S3 R'.hh hla (by rw [sizeLine_eq]; (first | exact omq61 _ _ _ _ hlv hlen hsmall hcnt | omega)) ⟨rfl, rfl, rfl, rfl⟩ ?_ ?_
        · intro i' v h₀' lc' news' h4 tk4 I oI C' D oL kD acc hled hv k4 hJ S
          obtain ⟨rfl, rfl, rfl, rfl⟩ := hJ
          repeat (walk_at "st")
          obtain ⟨it, hit, hiv⟩ := hI3.get hv
          have pL := S.nw _ (.tail _ (.tail _ (.head _)))
          have pK := S.nw _ (.tail _ (.tail _ (.tail _ (.head _))))
          have nd := S.nd
          have nLK : s.heap.objs.size ≠ kd := by
            intro q
            rw [List.map_cons, List.map_cons, List.map_cons, List.nodup_cons, List.nodup_cons, List.nodup_cons] at nd
            exact nd.2.2.1 (by rw [q]; exact .head _)
          have kW : h₀'.StaysIn (hideAll h4 [kd]) := fun b x e => hideAll_get _ (S.base e) (fun q => by rw [List.mem_singleton.mp q, pK.2.2] at e; cases e)
          have k04 : (hideAll s.heap [kd]).StaysIn h₀' := stays_trans kz0 kz3
          have e1 : (C.parts i)[0]? = some (.ref ((10 + C.nx i : Nat) : Int)) := by
            unfold Chain.parts
            rw [List.getElem?_append_left (by simpa using hcnt), List.getElem?_replicate, if_pos hcnt]
          rw [e1] at hit; cases hit
          obtain ⟨r', rfl, hr'⟩ := hiv
          rw [show (d : Int) + 1 = ((d + 1 : Nat) : Int) from rfl]
          refine ih (k₀ - 1) (by (first | exact omq62 _ _ _ _ hdk hd nLK | omega)) (d + 1) (C.nx i) j _ _ _ _ base _ kd sh sd r' o fs _ (by (first | exact omq63 _ _ _ _ hdk hd nLK | omega)) (ok.nx_lt i hi) hj (S.wd.keeps kW) (R.dp (by (first | exact omq64 _ _ _ _ hdk hd nLK | omega)) (by (first | exact omq65 _ _ _ _ hdk hd nLK | omega))) (belowAt B (stays_trans k04 kW) rfl rfl (hideAll_get _ pL.1 (by simpa using nLK)) (fun vs q => by obtain ⟨_, es, n, e⟩ := hled; rw [e] at q; cases q) (fresh_of_stays B.stays lz1)) pK.1 (hm.keep (stays_trans kz3 kW)) lo (hr'.keep kW) (hs.keep (stays_trans kz3 kW)) (mapKeep hst (stays_trans kz3 kW)) losd hfs ?_ ?_
          · intro q; (first | exact (omq66 _ _ _ hdk hHn q).elim | omega)
          · intro _ e h' tk' fly
            have hCn : ∃ m, (hideAll h4 [kd]).Ns C' m := by
              obtain ⟨g', m', F', _⟩ := S.fr
              exact ⟨m', F'.ns.at' fun o e => hideAll_get _ e (fun q => pK.2.1 (List.mem_singleton.mp q).symm)⟩
            refine compRaise B (stays_trans k04 kW) fly rfl rfl hCn ?_ pL.2.1 fun h2 fl => ?_
            · have := S.lz
              cases q : (hideAll s.heap [kd]).get? C' with
              | none => rfl
              | some o2 => rw [k04 _ _ q] at this; cases this
            · exact leaveAt B stays_refl fl rfl fun h3 fl3 => herr hd2 e h3 _ fl3
        · intro h₀' lc' news' h4 tk4 C' D oC kD acc m' hJ
          have := hJ.1
          omega
      · refine lcList (fun i' h₀' lc' news' acc => ∃ o', news' = [(kd, o')] ∧ NoTup news' ∧ MemoO prog w (VE C tr) C.n h₀' o' (if 0 < i' ∧ 0 < C.cnt i then i + 1 else j) ∧ Tups h₀' acc (tl.take i') ∧ lc' = lc391 sh sd kd (.int (d : Int) td)) S3 R'.hh hla (by rw [sizeLine_eq]; (first | exact omq67 _ _ _ _ hlv hlen hsmall | omega)) (by refine ⟨o, rfl, nt, by simpa using hm.keep kz3, ?_, rfl⟩; exact trivial) ?_ ?_
        · intro i' v h₀' lc' news' h4 tk4 I oI C' D oL kD acc hled hv k4 hJ S
          obtain ⟨o', rfl, nt', hm', hT', rfl⟩ := hJ
          repeat (walk_at "st")
          obtain ⟨it, hit, hiv⟩ := hI3.get hv
          have pI := S.nw _ (.head _)
          have pD := S.nw _ (.tail _ (.head _))
          have pL := S.nw _ (.tail _ (.tail _ (.head _)))
          have pK := S.nw _ (.tail _ (.tail _ (.tail _ (.head _))))
          have nd := S.nd
          have nLK : s.heap.objs.size ≠ kd := by
            intro q
            rw [List.map_cons, List.map_cons, List.map_cons, List.nodup_cons, List.nodup_cons, List.nodup_cons] at nd
            exact nd.2.2.1 (by rw [q]; exact .head _)
          have kW : h₀'.StaysIn (hideAll h4 [kd]) := fun b x e => hideAll_get _ (S.base e) (fun q => by rw [List.mem_singleton.mp q, pK.2.2] at e; cases e)
          have k04 : (hideAll s.heap [kd]).StaysIn h₀' := stays_trans kz0 (stays_trans kz3 k4)
          have ntall : ∀ o2, o2.cls ≠ .type "tuple" → NoTup [(I, oI), (D, lstO acc kD), (s.heap.objs.size, oL), (kd, o2)] := by
            intro o2 ho2 p hp
            obtain ⟨⟨vI, eI⟩, esL, nL, eL⟩ := hled
            rcases List.mem_cons.mp hp with rfl | hp
            · exact .inr fun vs n q => by rw [show oI.data = _ from eI] at q; cases q
            · rcases List.mem_cons.mp hp with rfl | hp
              · exact .inl (by show Value.type "list" ≠ Value.type "tuple"; decide)
              · rcases List.mem_cons.mp hp with rfl | hp
                · exact .inr fun vs n q => by rw [show oL.data = _ from eL] at q; cases q
                · rw [List.mem_singleton.mp hp]; exact .inl ho2
          have mcls : ∀ {h o2 j2}, MemoO prog w (VE C tr) C.n h o2 j2 → o2.cls ≠ .type "tuple" := fun m => by
            obtain ⟨es, ep, xs, e1, _⟩ := m; rw [e1.1]; decide
          by_cases hc : i' < C.cnt i
          · have e1 : (C.parts i)[i']? = some (.ref ((10 + C.nx i : Nat) : Int)) := by
              unfold Chain.parts
              rw [List.getElem?_append_left (by simpa using hc), List.getElem?_replicate, if_pos hc]
            rw [e1] at hit; cases hit
            obtain ⟨r', rfl, hr'⟩ := hiv
            have hnx := ok.ord i hi (by (first | exact omq68 _ _ _ _ _ hlv hlen hsmall hc | omega)) (by (first | exact omq69 _ _ _ hdk hd2 | omega))
            have hHn : C.H i = C.H (C.nx i) + 1 := by rcases ok.HS i hi (by (first | exact omq68 _ _ _ _ _ hlv hlen hsmall hc | omega)) with q | q <;> (first | exact omq70 _ _ q | exact omq71 _ _ _ _ hdk hd2 q | omega)
            rw [show (d : Int) + 1 = ((d + 1 : Nat) : Int) from rfl]
            refine ih (k₀ - 1) (by (first | exact omq72 _ _ _ _ hdk hH1 hd2 hHn | omega)) (d + 1) (C.nx i) (if 0 < i' ∧ 0 < C.cnt i then i + 1 else j) _ _ _ _ base _ kd sh sd r' o' fs _ (by (first | exact omq73 _ _ _ _ hdk hH1 hd2 hHn | omega)) (ok.nx_lt i hi) (by split <;> (first | exact omq74 _ _ _ hi hnx | exact omq75 _ _ hj | omega)) (S.wd.keeps kW) (R.dp (by (first | exact omq76 _ _ _ _ hdk hH1 hd2 hHn | omega)) (by (first | exact omq77 _ _ _ _ hdk hH1 hd2 hHn | omega))) (belowAt B (stays_trans k04 kW) rfl rfl (hideAll_get _ pL.1 (by simpa using nLK)) (fun vs q => by obtain ⟨_, es, n, e⟩ := hled; rw [e] at q; cases q) (fresh_of_stays B.stays lz1)) pK.1 (hm'.keep kW) lo (hr'.keep (stays_trans k4 kW)) (hs.keep (stays_trans kz3 (stays_trans k4 kW))) (mapKeep hst (stays_trans kz3 (stays_trans k4 kW))) losd hfs ?_ ?_
            · intro hle h' tk' t u m o'' kk hkd' hm'' hne ht
              have S' := S.turn (pre := [(I, oI), (D, lstO acc kD), (s.heap.objs.size, oL)]) (post := []) hm'.noCell kk hkd'
              have nt2 := ntall o'' (mcls hm'')
              have ht' := S'.tup nt2 ht rfl rfl
              obtain ⟨S'', kz''⟩ := S'.freeze
              refine ⟨_, _, [(kd, o'')], h', tk', rfl, kz'', ⟨o'', rfl, fun p hp => nt2 p (.tail _ (.tail _ (.tail _ hp))), ?_, ?_, rfl⟩, S''⟩
              · have := hm''.frz S' nt2 (fun b x e => of_hideAll _ e)
                rw [if_pos ⟨Nat.succ_pos _, by (first | exact omq68 _ _ _ _ _ hlv hlen hsmall hc | omega)⟩]
                have e2 : min (if 0 < i' ∧ 0 < C.cnt i then i + 1 else j) (C.nx i) = i + 1 := by split <;> (first | exact omq78 _ _ hnx | exact omq79 _ _ _ hji hnx | omega)
                rw [e2] at this; exact this
              · rw [List.take_add_one, htl0, List.getElem?_append_left (by simpa using hc), List.getElem?_replicate, if_pos hc, ← htl0]
                exact (hT'.keep kz'').snoc ht'
            · intro q; (first | exact (omq80 _ _ _ _ hdk hd2 hHn q).elim | omega)
          · have e1 : ∃ g, (C.gs i)[i' - C.cnt i]? = some g ∧ it = .ref ((g : Nat) : Int) := by
              unfold Chain.parts at hit
              rw [List.getElem?_append_right (by simpa using hc), List.length_replicate, List.getElem?_map] at hit
              obtain ⟨g, h1, h2⟩ := Option.map_eq_some_iff.mp hit
              exact ⟨g, h1, h2.symm⟩
            obtain ⟨gg, hgg, rfl⟩ := e1
            obtain ⟨r', rfl, hr'⟩ := hiv
            obtain ⟨g1, g4⟩ := ok.gs_in i gg hi (List.mem_of_getElem? hgg)
            refine told_group S.wdh (R0 _) (hs.keep (stays_trans kz3 (stays_trans k4 S.out))) (mapKeep hst (stays_trans kz3 (stays_trans k4 S.out))) losd (hr'.keep (stays_trans k4 S.out)) g1 g4 (hfs gg g1 g4) fun h' tk' t u m kk hn1 ht => ?_
            have S' := S.keeps kk
            have nt2 := ntall o' (mcls hm')
            have ht' := S'.tup nt2 ht rfl rfl
            obtain ⟨S'', kz''⟩ := S'.freeze
            refine ⟨_, _, [(kd, o')], h', tk', rfl, kz'', ⟨o', rfl, nt', ?_, ?_, rfl⟩, S''⟩
            · have e2 : (if 0 < i' + 1 ∧ 0 < C.cnt i then i + 1 else j) = (if 0 < i' ∧ 0 < C.cnt i then i + 1 else j) := by
                by_cases q : 0 < C.cnt i
                · rw [if_pos ⟨by (first | exact omq81 _ | omega), q⟩, if_pos ⟨by (first | exact omq82 _ _ _ _ _ hlv hlen hsmall hc q | omega), q⟩]
                · rw [if_neg (fun x => q x.2), if_neg (fun x => q x.2)]
              rw [e2]; exact hm'.keep kz''
            · rw [List.take_add_one, htl0, List.getElem?_append_right (by simpa using hc), List.length_replicate, List.getElem?_map, hgg, ← htl0]
              exact (hT'.keep kz'').snoc ht'
        · intro h₀' lc' news' h4 tk4 C' D oC kD acc m' hJ hlen' k4 S hn
          obtain ⟨o', rfl, nt', hm', hT', rfl⟩ := hJ
          refine fin1 (y := "parts") S hn ⟨rfl, rfl, rfl, rfl⟩ rfl fun h5 S => ?_
          have hjj : (if 0 < vs.length ∧ 0 < C.cnt i then i + 1 else j) = i + 1 := by
            by_cases q : 0 < C.cnt i
            · rw [if_pos ⟨by (first | exact omq83 _ _ _ _ _ hlv hlen hsome hlen' | omega), q⟩]
            · rw [if_neg (fun x => q x.2)]
              have := ok.last i hi (by (first | exact omq84 _ _ _ _ _ hlv hlen hsmall hlen' q | omega))
              (first | exact omq85 _ _ _ hj hji this | omega)
          rw [hjj] at hm'
          rw [List.take_of_length_le (by rw [htll]; (first | exact omq86 _ _ _ hlv | omega))] at hT'
          obtain ⟨S5, kz5, hD⟩ := S.still (fun v q => nomatch q)
          clear S
          generalize hideAll h5 _ = h₅ at S5 kz5 hD
          have k25 : h₂.StaysIn h₅ := stays_trans kz3 (stays_trans k4 kz5)
          have hsh5 := hsh.keep k25
          have hL5 := k25 _ _ hL
          have hT5 := hT'.keep kz5
          have hnm5 := hnm.keep (stays_trans kz0 k25)
          have hm5 := hm'.keep kz5
          obtain ⟨dsh5, tb5, tr5, t15, t25, k15, f5, s15, s25, s35, lo35, s45⟩ := hsh5
          repeat (walk_at "st")
          rename St _ _ _ _ _ _ _ _ => S
          refine rItemL (S.base hL5) (by decide) (by decide) rfl ?_
          repeat (walk_at "st")
          rename St _ _ _ _ _ _ _ _ => S
          refine fetch_self S.wdh ((R0 _).le (by decide) (by decide)) (.inl ⟨_, hnm5.keep S.out⟩) fun h' tk' k => ?_
          replace S := S.keeps k
          clear k
          repeat (walk_at "st")
          rename St _ _ _ _ _ _ _ _ => S
          refine rLC [] ?_
          repeat (walk_at "st")
          rename St _ _ _ _ _ _ _ _ => S
          refine lcList (fun i' h₀'' lc'' news'' acc1 => news'' = [(kd, o')] ∧ lc'' = lc391 sh sd kd (.int (d : Int) td) ∧ acc1 = (tl.take i').map fun x => .bool x.1) S R'.hh hD (by rw [sizeLine_eq, hlen']; (first | exact omq87 _ _ _ _ _ hlv hlen hsmall hlen' | omega)) ⟨rfl, rfl, rfl⟩ ?_ ?_
          · intro i' v h₀'' lc'' news'' h6 tk6 I oI C6 D6 oL k6 acc1 hled hv k66 hJ S
            obtain ⟨rfl, rfl, rfl⟩ := hJ
            obtain ⟨b, n', t, u, m, htl, rfl, ht⟩ := hT5.get hv
            repeat (walk_at "st")
            refine rItemT (S.base (k66 _ _ ht)) (by decide) (by decide) rfl rfl ?_
            exact ⟨_, _, _, _, _, rfl, stays_refl, ⟨rfl, rfl, by rw [List.take_add_one, htl]; simp⟩, S⟩
          intro h₀'' lc'' news'' h6 tk6 C6 D6 oC6 k6 acc1 m6 hJ hlen6 k66 S hn6
          obtain ⟨rfl, rfl, rfl⟩ := hJ
          refine fin0 S hn6 fun h7 S => ?_
          clear hn6
          repeat (walk_at "st")
          rename St _ _ _ _ _ _ _ _ => S
          have hlt : (tl.take vs.length) = tl := List.take_of_length_le (by (first | exact omq88 _ _ _ _ htll hlv | omega))
          rw [show acc.length = vs.length from hlen', hlt] at S
          have hfst : tl.map (fun x => Value.bool x.1) = (tl.map (·.1)).map Value.bool := by rw [List.map_map]; rfl
          rw [hfst] at S
          have hjo : joined (word i) (tl.map (·.1)) = some (tr i) := by
            rw [← htr i hi (by (first | exact omq69 _ _ _ hdk hd2 | omega)), htl0]
            congr 1
            rw [List.map_append, List.map_replicate, List.map_map]
            rfl
          refine joined_state S.wdh ((R0 _).le (by decide) (by decide)) (hnm5.keep (stays_trans k66 S.out)) (S.new (.head _)) hjo fun h' tk' k => ?_
          replace S := (S.keeps k).tail
          clear k
          repeat (walk_at "st")
          rename St _ _ _ _ _ _ _ _ => S
          refine rLC [] ?_
          repeat (walk_at "st")
          rename St _ _ _ _ _ _ _ _ => S
          refine lcList (fun i' h₀'' lc'' news'' acc1 => news'' = [(kd, o')] ∧ lc'' = lc391 sh sd kd (.int (d : Int) td) ∧ IntsAre acc1 ((tl.take i').map fun x => (x.2 : Int))) S R'.hh (k66 _ _ hD) (by rw [sizeLine_eq, hlen']; (first | exact omq89 _ _ _ _ _ _ hlv hlen hsmall hlen' hlen6 | omega)) ⟨rfl, rfl, .nil⟩ ?_ ?_
          · intro i' v h₀3 lc'' news'' h6 tk6 I oI C6 D6 oL k6 acc1 hled hv k67 hJ S
            obtain ⟨rfl, rfl, hia⟩ := hJ
            obtain ⟨b, n', t, u, m, htl, rfl, ht⟩ := hT5.get hv
            repeat (walk_at "st")
            refine rItemT (S.base (k67 _ _ (k66 _ _ ht))) (by decide) (by decide) rfl rfl ?_
            exact ⟨_, _, _, _, _, rfl, stays_refl, ⟨rfl, rfl, by rw [List.take_add_one, htl, List.map_append]; exact hia.append (.cons _ _ .nil)⟩, S⟩
          intro h₀3 lc'' news'' h8 tk8 C8 D8 oC8 k8 acc2 m8 hJ hlen8 k68 S hn8
          obtain ⟨rfl, rfl, hia⟩ := hJ
          refine fin0 S hn8 fun h9 S => ?_
          clear hn8
          repeat (walk_at "st")
          rename St _ _ _ _ _ _ _ _ => S
          rw [show acc.length = vs.length from hlen', hlt] at hia
          refine rMax S R'.hh (S.new (.head _)) hia (by rw [List.length_map, htll]; (first | exact omq90 _ _ hsome | omega)) fun h' M tM tk' S' hM1 hM2 => ?_
          replace S := S'.tail
          clear S'
          have hHM : (1 : Int) + M = ((C.H i : Nat) : Int) := by
            by_cases q : 0 < C.cnt i
            · have hHn : C.H i = C.H (C.nx i) + 1 := by rcases ok.HS i hi q with q | q <;> (first | exact omq70 _ _ q | exact omq71 _ _ _ _ hdk hd2 q | omega)
              have a1 := hM2 (C.H (C.nx i) : Nat) (by
                rw [List.mem_map]
                exact ⟨(tr (C.nx i), C.H (C.nx i)), by rw [htl0]; exact List.mem_append_left _ (List.mem_replicate.mpr ⟨by (first | exact omq91 _ _ _ _ _ _ _ hlv hlen hsmall hlen' hlen6 hlen8 q | omega), rfl⟩), rfl⟩)
              obtain ⟨x, hx, hxM⟩ := List.mem_map.mp hM1
              rw [htl0] at hx
              rcases List.mem_append.mp hx with hx | hx
              · rw [(List.mem_replicate.mp hx).2] at hxM; dsimp only at hxM; (first | exact omq92 _ _ _ hHn hxM | omega)
              · obtain ⟨g, _, rfl⟩ := List.mem_map.mp hx; dsimp only at hxM; (first | exact omq93 _ _ _ _ _ hdk hH1 hd2 hHn a1 hxM | omega)
            · have hH := ok.H0 i hi (by (first | exact omq94 _ _ _ _ _ _ _ hlv hlen hsmall hlen' hlen6 hlen8 q | omega))
              obtain ⟨x, hx, hxM⟩ := List.mem_map.mp hM1
              rw [htl0, show C.cnt i = 0 by (first | exact omq94 _ _ _ _ _ _ _ hlv hlen hsmall hlen' hlen6 hlen8 q | omega)] at hx
              obtain ⟨g, _, rfl⟩ := List.mem_map.mp (by simpa using hx)
              dsimp only at hxM; (first | exact omq95 _ _ hH hxM | omega)
          repeat (walk_at "st")
          rename St _ _ _ _ _ _ _ _ => S
          rw [hHM] at S
          obtain ⟨S9, kz9, hft⟩ := S.still (fun v q => nomatch q)
          clear S
          have k59 := stays_trans k66 (stays_trans k68 kz9)
          generalize hideAll _ (loose _ _ _ [(kd, o')]) = h₉ at S9 kz9 hft k59
          refine PyProof.Rows.isnot_ref_none ?_
          repeat (walk_at "st")
          rename St _ _ _ _ _ _ _ _ => S
          refine memoSet (pre := []) (post := []) (V := VE C tr) (hm5.keep k59) S nt' (S.base (k59 _ _ (k25 _ _ hmk))) (S.base hft) ⟨_, rfl⟩ hi ok.n100 (room _) fun h' o'' tk h₀' kz10 kz11 hm10 S hsb => ?_
          repeat (walk_at "st")
          rename St _ _ _ _ _ _ _ _ => S
          have pK := S.nw _ (.head _)
          have kk : (hideAll s.heap [kd]).StaysIn h₀' := stays_trans kz0 (stays_trans k25 (stays_trans k59 kz10))
          refine hret (by (first | exact omq96 _ _ _ _ hdk hd2 hHM | omega)) _ _ _ _ _ o'' (fun b x hb hx => S.base (kk _ _ (hideAll_get _ hx hb))) pK.1 ?_ ?_ (S.base (kz10 _ _ hft))
          · rw [Nat.min_eq_right (by (first | exact omq97 _ _ _ hji hjj | omega))]
            exact hm10.keep fun b x hx => hideAll_get _ (S.base hx) (fun q => by rw [List.mem_singleton.mp q, pK.2.2] at hx; cases hx)
          · intro q
            have := kz10 _ _ hft
            rw [q, pK.2.2] at this; cases this
end toldC
section
variable {prog : Program} {w : World} {A : Around} {Q E : Value → Shared → Prop} {s : Shared} 
theorem told (C : Chain) (ok : C.Ok) (tr : Nat → Bool) (st : Nat → Bool) (word : Nat → Str) (rows : Int → Option (List Item)) (hrows : ∀ i, i < C.n → rows ((10 + i : Nat) : Int) = some (.nm (word i) :: C.parts i))
    (htr : ∀ i, i < C.n → C.H i ≤ 20 → joined (word i) (List.replicate (C.cnt i) (tr (C.nx i)) ++ (C.gs i).map st) = some (tr i)) : ∀ (k d i j : Nat) (A : Around) (s : Shared) (Q E : Value → Shared → Prop) (base : Heap) (outer : List Env) (kd sh sd r : Addr) (o : Obj) (fs : Int → Option Value) (td : Tok),
      d + k = 20 → i < C.n → j ≤ C.n → Wd w (hideAll s.heap [kd]) → Rm A (k + 10) (3 * k + 50) → Below A base outer (hideAll s.heap [kd]) → s.heap.get? kd = some o → MemoO prog w (VE C tr) C.n (hideAll s.heap [kd]) o j → (kd == sysModules) = false →
      IsRef w (hideAll s.heap [kd]) r ((10 + i : Nat) : Int) → ShelfAt prog w (hideAll s.heap [kd]) sh rows → (hideAll s.heap [kd]).MapOf (intKind prog w) sd fs → (sd == sysModules) = false → (∀ g : Nat, 1 ≤ g → g ≤ 4 → fs (g : Int) = some (.bool (st g))) →
      (d + C.H i ≤ 20 → ∀ h' tk' t u m o', (∀ b x, b ∉ [kd] → s.heap.get? b = some x → h'.get? b = some x) → h'.get? kd = some o' → MemoO prog w (VE C tr) C.n (hideAll h' [kd]) o' (min j i) → t ≠ kd → h'.get? t = some (tupO [.bool (tr i), .int (C.H i : Nat) u] m) → Q (.ref t) { s with heap := h', toks := tk' }) →
      (20 < d + C.H i → ∀ e h' tk', Fly base outer (hideAll s.heap [kd]) e h' → E (.ref e) { s with heap := h', toks := tk' }) →
      wpAny (model prog w) A (call (.ref 391) [.ref sh, .ref sd, .ref r, .int (d : Int) td, .ref kd]) Q E s := fun k d i j A s Q E base outer kd sh sd r o fs td => worst_all (α := toldC.V) (default, Cx.one.w, { n := 0, cnt := fun _ => 0, gs := fun _ => [], nx := fun _ => 0, H := fun _ => 0 }, fun _ => false, fun _ => false, fun _ => none, (0 : Nat), (0 : Nat), (0 : Nat), (0 : Nat), {}, Cx.one.s, fun _ _ => True, fun _ _ => True, default, [], (0 : Nat), (0 : Nat), (0 : Nat), (0 : Nat), fun _ => none, (0 : Nat)) (fun v : toldC.V => v.2.2.2.2.2.2.1) (fun v => toldC.P v.1 v.2.1 v.2.2.1 v.2.2.2.1 v.2.2.2.2.1 v.2.2.2.2.2.1 v.2.2.2.2.2.2.1 v.2.2.2.2.2.2.2.1 v.2.2.2.2.2.2.2.2.1 v.2.2.2.2.2.2.2.2.2.1 v.2.2.2.2.2.2.2.2.2.2.1 v.2.2.2.2.2.2.2.2.2.2.2.1 v.2.2.2.2.2.2.2.2.2.2.2.2.1 v.2.2.2.2.2.2.2.2.2.2.2.2.2.1 v.2.2.2.2.2.2.2.2.2.2.2.2.2.2.1 v.2.2.2.2.2.2.2.2.2.2.2.2.2.2.2.1 v.2.2.2.2.2.2.2.2.2.2.2.2.2.2.2.2.1 v.2.2.2.2.2.2.2.2.2.2.2.2.2.2.2.2.2.1 v.2.2.2.2.2.2.2.2.2.2.2.2.2.2.2.2.2.2.1 v.2.2.2.2.2.2.2.2.2.2.2.2.2.2.2.2.2.2.2.1 v.2.2.2.2.2.2.2.2.2.2.2.2.2.2.2.2.2.2.2.2.1 v.2.2.2.2.2.2.2.2.2.2.2.2.2.2.2.2.2.2.2.2.2) toldC.at_c (prog, w, C, tr, st, rows, k, d, i, j, A, s, Q, E, base, outer, kd, sh, sd, r, fs, td) ok word hrows htr o
end

/-! QF5 -/
section
variable {prog : Program} {w : World} {A : Around} {Q E : Value → Shared → Prop} {s : Shared} 

theorem state_fn (C : Chain) (ok : C.Ok) (tr : Nat → Bool) (st : Nat → Bool) (word : Nat → Str) (rows : Int → Option (List Item)) (hrows : ∀ i, i < C.n → rows ((10 + i : Nat) : Int) = some (.nm (word i) :: C.parts i))
    (htr : ∀ i, i < C.n → C.H i ≤ 20 → joined (word i) (List.replicate (C.cnt i) (tr (C.nx i)) ++ (C.gs i).map st) = some (tr i)) (hn : 0 < C.n)
    {base : Heap} {outer : List Env} {sh sd r : Addr} {fs : Int → Option Value} (W : Wd w s.heap) (R : Rm A 40 160) (B : Below A base outer s.heap)
    (hr : IsRef w s.heap r ((10 + 0 : Nat) : Int)) (hs : ShelfAt prog w s.heap sh rows) (hst : s.heap.MapOf (intKind prog w) sd fs) (losd : (sd == sysModules) = false) (hfs : ∀ g : Nat, 1 ≤ g → g ≤ 4 → fs (g : Int) = some (.bool (st g)))
    (hret : C.H 0 ≤ 20 → ∀ h' tk', s.heap.StaysIn h' → Q (.bool (tr 0)) { s with heap := h', toks := tk' })
    (herr : 20 < C.H 0 → ∀ e h' tk', Fly base outer s.heap e h' → E (.ref e) { s with heap := h', toks := tk' }) :
    wpAny (model prog w) A (call (.ref 398) [.ref sh, .ref sd, .ref r]) Q E s := by
  (refine' enter0 ?W ?ho ?hcd ?hroom ?hb ?hloc ?_ ?c1 ?c2 ?c3 ?c4; (case W => assumption); (case ho => k_is); (case hcd => k_is); (case hroom => exact Rm.room (by assumption)); (case hb => first | exact BindsTo.of_eq rfl | exact binds_K (Wd.K (by assumption)) rfl (by k_is) rfl rfl rfl); (case hloc => exact locs rfl); (case c1 => exact rfl); (case c2 => exact rfl); (case c3 => exact rfl); (case c4 => decide); intro _ _ _; (try dsimp only))
  rename St _ _ _ _ _ _ _ _ => S
  have lz1 := S.lz
  replace S := S.names (l' := [("value", .ref r), ("states", .ref sd), ("shelf", .ref sh)]) ⟨rfl, rfl, rfl, trivial⟩
  repeat (walk_at "st")
  rename St _ _ _ _ _ _ _ _ => S
  refine rDict0 S fun kd h' lo k S => ?_
  repeat (walk_at "st")
  rename St _ _ _ _ _ _ _ _ => S
  have pK := S.nw _ (.head _)
  have kW : s.heap.StaysIn (hideAll h' [kd]) := fun b x e => hideAll_get _ (S.base e) (fun q => by rw [List.mem_singleton.mp q, pK.2.2] at e; cases e)
  obtain ⟨oL, es, n, hL, hLd⟩ := S.here
  refine told C ok tr st word rows hrows htr 20 0 0 C.n _ _ _ _ base _ kd sh sd r _ fs _ rfl hn (Nat.le_refl _) (S.wd.keeps kW) (R.dp (by decide) (by decide)) (belowAt B kW rfl rfl (hideAll_get _ hL (fun q => pK.2.1 (List.mem_singleton.mp q).symm)) (fun vs q => by rw [hLd] at q; cases q) (fresh_of_stays B.stays lz1)) pK.1 (MemoO.none ..) lo (hr.keep kW) (hs.keep kW) (mapKeep hst kW) losd hfs ?_ ?_
  · intro hle h2 tk2 t u m o' kk hkd hm hne ht
    have S' := S.turn (pre := []) (post := []) (by intro v q; cases q) kk hkd
    clear S
    repeat (walk_at "st")
    rename St _ _ _ _ _ _ _ _ => S
    refine rItemT ht (by decide) (by decide) rfl rfl ?_
    exact hret (by (first | exact omq98 _ hle | omega)) _ _ S.out
  · intro hle e h2 tk2 fly
    exact leaveOn B kW fly rfl fun h3 fl => herr (by (first | exact omq99 _ hle | omega)) e h3 _ fl
end

/-! QF6 -/
section
variable {prog : Program} {w : World} {A : Around} {Q E : Value → Shared → Prop} {s : Shared} 

/-- an order's chain: the labels too -/
structure OChain extends Chain where
  lab : Nat → Option (Array UInt8)
  cn : Nat → Nat
noncomputable def OChain.labN (C : OChain) (i : Nat) : Nat := if (C.lab i).isSome then 1 else 0
noncomputable def OChain.lb (C : OChain) (i : Nat) : List Item := match C.lab i with | some b => [.lab b] | none => []
structure OChain.OkO (C : OChain) : Prop extends C.toChain.Ok where
  cnt_ : ∀ i, i < C.n → C.H i ≤ 20 → C.cn i = C.cnt i * (C.cn (C.nx i) + C.labN (C.nx i)) + (C.gs i).length
noncomputable def VO (C : OChain) (i : Nat) (items : List Value) : Prop := ∃ u1 u2, items = [.int (C.cn i : Nat) u1, .int ((C.H i - 1 : Nat) : Int) u2]
theorem OChain.lb_cases (C : OChain) (i : Nat) : C.lb i = [] ∨ ∃ b, C.lb i = [.lab b] := by
  unfold OChain.lb
  cases C.lab i with
  | none => exact .inl rfl
  | some b => exact .inr ⟨b, rfl⟩
/-- what stands at a turn of order_size -/
noncomputable def OJ (prog : Program) (w : World) (C : OChain) (kd sh la : Addr) (d : Nat) (td : Tok) (j nl c q : Nat) (idx : Nat) (h₀ : Heap) (l : List (Str × Value)) (lc : List (Str × Option Value)) (news : List (Addr × Obj)) : Prop :=
  ∃ o', news = [(kd, o')] ∧ NoTup news ∧ lc = [] ∧ MemoO prog w (VO C) C.n h₀ o' (if 0 < min (idx - nl) c then min j q else j) ∧ (0 < c ∧ 20 < d + C.H q → idx ≤ nl) ∧
    ∃ t1 t2, Sub l [("count", .int ((min (idx - nl) c * (C.cn q + C.labN q) + (idx - nl - c) : Nat) : Int) t1), ("levels", .int ((if 0 < min (idx - nl) c then C.H q else 0 : Nat) : Int) t2), ("items", .ref la), ("shelf", .ref sh), ("depth", .int (d : Int) td), ("known", .ref kd)]
theorem mul_one_more (p c x g : Nat) : p * x + g + x = (p + 1) * x + g := by rw [Nat.add_mul]; (first | exact omq100 _ _ _ | omega)

theorem OChain.first (C : OChain) (ok : C.OkO) (rows : Int → Option (List Item)) (hrows : ∀ i, i < C.n → rows ((10 + i : Nat) : Int) = some (C.lb i ++ C.parts i)) (q : Nat) (hq : q < C.n) :
    ∃ it its, C.lb q ++ C.parts q = it :: its ∧ ((∃ x, it = .lab x ∧ (C.lab q).isSome = true) ∨ ∃ n : Int, it = .ref n ∧ (C.lab q).isSome = false ∧ ((1 ≤ n ∧ n ≤ 4) ∨ (rows n).isSome = true)) := by
  unfold OChain.lb
  cases hl : C.lab q with
  | some b => exact ⟨_, _, rfl, .inl ⟨b, rfl, rfl⟩⟩
  | none =>
    unfold Chain.parts
    cases hc : C.cnt q with
    | succ m => exact ⟨_, _, rfl, .inr ⟨_, rfl, rfl, .inr (by rw [hrows _ (ok.nx_lt q hq)]; rfl)⟩⟩
    | zero =>
      have := ok.some q hq
      cases hg : C.gs q with
      | nil => rw [hc, hg] at this; simp at this
      | cons g r =>
        have := ok.gs_in q g hq (by rw [hg]; exact .head _)
        exact ⟨_, _, rfl, .inr ⟨_, rfl, rfl, .inl (by (first | exact omq101 _ this | omega))⟩⟩

end
namespace osizeC
noncomputable abbrev V := Program × World × OChain × (Int → Option (List Item)) × Nat × Nat × Nat × Around × Shared × (Value → Shared → Prop) × (Value → Shared → Prop) × Heap × List Env × Addr × Addr × Addr × Tok × List Value × Nat × Nat × Nat × List Nat
noncomputable def P (prog : Program) (w : World) (C : OChain) (rows : Int → Option (List Item)) (k : Nat) (d : Nat) (j : Nat) (A : Around) (s : Shared) (Q : Value → Shared → Prop) (E : Value → Shared → Prop) (base : Heap) (outer : List Env) (kd : Addr) (sh : Addr) (la : Addr) (td : Tok) (arr : List Value) (kk : Nat) (c : Nat) (q : Nat) (gsl : List Nat) : Prop := ∀ (ok : C.OkO) (hrows : ∀ i, i < C.n → rows ((10 + i : Nat) : Int) = some (C.lb i ++ C.parts i)) (o : Obj) (lb : List Item), d + k = 21 → j ≤ C.n → (0 < c → q < C.n) → (lb = [] ∨ ∃ b, lb = [.lab b]) → (∀ g, g ∈ gsl → 1 ≤ g ∧ g ≤ 4) → c ≤ 3 → gsl.length ≤ 2 → Wd w (hideAll s.heap [kd]) → Rm A (k + 12) (3 * k + 60) → Below A base outer (hideAll s.heap [kd]) → s.heap.get? kd = some o → MemoO prog w (VO C) C.n (hideAll s.heap [kd]) o j → (kd == sysModules) = false →
      (hideAll s.heap [kd]).get? la = some (lstO arr kk) → Its w (hideAll s.heap [kd]) arr (lb ++ (List.replicate c (.ref ((10 + q : Nat) : Int)) ++ gsl.map fun g => .ref ((g : Nat) : Int))) → ShelfAt prog w (hideAll s.heap [kd]) sh rows →
      (d ≤ 20 ∧ (0 < c → d + C.H q ≤ 20) → ∀ h' tk' t u1 u2 m o', (∀ b x, b ∉ [kd] → s.heap.get? b = some x → h'.get? b = some x) → h'.get? kd = some o' → MemoO prog w (VO C) C.n (hideAll h' [kd]) o' (if 0 < c then min j q else j) → t ≠ kd →
        h'.get? t = some (tupO [.int ((c * (C.cn q + C.labN q) + gsl.length : Nat) : Int) u1, .int ((if 0 < c then C.H q else 0 : Nat) : Int) u2] m) → Q (.ref t) { s with heap := h', toks := tk' }) →
      (20 < d ∨ (0 < c ∧ 20 < d + C.H q) → ∀ e h' tk', Fly base outer (hideAll s.heap [kd]) e h' → E (.ref e) { s with heap := h', toks := tk' }) →
      wpAny (model prog w) A (call (.ref 412) [.ref sh, .ref la, .int (d : Int) td, .ref kd]) Q E s
noncomputable def wc : V := worst (α := V) (default, Cx.one.w, { n := 0, cnt := fun _ => 0, gs := fun _ => [], nx := fun _ => 0, H := fun _ => 0, lab := fun _ => none, cn := fun _ => 0 }, fun _ => none, (0 : Nat), (0 : Nat), (0 : Nat), {}, Cx.one.s, fun _ _ => True, fun _ _ => True, default, [], (0 : Nat), (0 : Nat), (0 : Nat), (0 : Nat), [], (0 : Nat), (0 : Nat), (0 : Nat), []) (fun v : V => v.2.2.2.2.1) fun v => P v.1 v.2.1 v.2.2.1 v.2.2.2.1 v.2.2.2.2.1 v.2.2.2.2.2.1 v.2.2.2.2.2.2.1 v.2.2.2.2.2.2.2.1 v.2.2.2.2.2.2.2.2.1 v.2.2.2.2.2.2.2.2.2.1 v.2.2.2.2.2.2.2.2.2.2.1 v.2.2.2.2.2.2.2.2.2.2.2.1 v.2.2.2.2.2.2.2.2.2.2.2.2.1 v.2.2.2.2.2.2.2.2.2.2.2.2.2.1 v.2.2.2.2.2.2.2.2.2.2.2.2.2.2.1 v.2.2.2.2.2.2.2.2.2.2.2.2.2.2.2.1 v.2.2.2.2.2.2.2.2.2.2.2.2.2.2.2.2.1 v.2.2.2.2.2.2.2.2.2.2.2.2.2.2.2.2.2.1 v.2.2.2.2.2.2.2.2.2.2.2.2.2.2.2.2.2.2.1 v.2.2.2.2.2.2.2.2.2.2.2.2.2.2.2.2.2.2.2.1 v.2.2.2.2.2.2.2.2.2.2.2.2.2.2.2.2.2.2.2.2.1 v.2.2.2.2.2.2.2.2.2.2.2.2.2.2.2.2.2.2.2.2.2
noncomputable def prog : Program := wc.1
noncomputable def w : World := wc.2.1
noncomputable def C : OChain := wc.2.2.1
noncomputable def rows : Int → Option (List Item) := wc.2.2.2.1
noncomputable def k₀ : Nat := wc.2.2.2.2.1
noncomputable def d : Nat := wc.2.2.2.2.2.1
noncomputable def j : Nat := wc.2.2.2.2.2.2.1
noncomputable def A : Around := wc.2.2.2.2.2.2.2.1
noncomputable def s : Shared := wc.2.2.2.2.2.2.2.2.1
noncomputable def Q : Value → Shared → Prop := wc.2.2.2.2.2.2.2.2.2.1
noncomputable def E : Value → Shared → Prop := wc.2.2.2.2.2.2.2.2.2.2.1
noncomputable def base : Heap := wc.2.2.2.2.2.2.2.2.2.2.2.1
noncomputable def outer : List Env := wc.2.2.2.2.2.2.2.2.2.2.2.2.1
noncomputable def kd : Addr := wc.2.2.2.2.2.2.2.2.2.2.2.2.2.1
noncomputable def sh : Addr := wc.2.2.2.2.2.2.2.2.2.2.2.2.2.2.1
noncomputable def la : Addr := wc.2.2.2.2.2.2.2.2.2.2.2.2.2.2.2.1
noncomputable def td : Tok := wc.2.2.2.2.2.2.2.2.2.2.2.2.2.2.2.2.1
noncomputable def arr : List Value := wc.2.2.2.2.2.2.2.2.2.2.2.2.2.2.2.2.2.1
noncomputable def kk : Nat := wc.2.2.2.2.2.2.2.2.2.2.2.2.2.2.2.2.2.2.1
noncomputable def c : Nat := wc.2.2.2.2.2.2.2.2.2.2.2.2.2.2.2.2.2.2.2.1
noncomputable def q : Nat := wc.2.2.2.2.2.2.2.2.2.2.2.2.2.2.2.2.2.2.2.2.1
noncomputable def gsl : List Nat := wc.2.2.2.2.2.2.2.2.2.2.2.2.2.2.2.2.2.2.2.2.2
theorem at_c (IH : ∀ v : V, v.2.2.2.2.1 < k₀ → P v.1 v.2.1 v.2.2.1 v.2.2.2.1 v.2.2.2.2.1 v.2.2.2.2.2.1 v.2.2.2.2.2.2.1 v.2.2.2.2.2.2.2.1 v.2.2.2.2.2.2.2.2.1 v.2.2.2.2.2.2.2.2.2.1 v.2.2.2.2.2.2.2.2.2.2.1 v.2.2.2.2.2.2.2.2.2.2.2.1 v.2.2.2.2.2.2.2.2.2.2.2.2.1 v.2.2.2.2.2.2.2.2.2.2.2.2.2.1 v.2.2.2.2.2.2.2.2.2.2.2.2.2.2.1 v.2.2.2.2.2.2.2.2.2.2.2.2.2.2.2.1 v.2.2.2.2.2.2.2.2.2.2.2.2.2.2.2.2.1 v.2.2.2.2.2.2.2.2.2.2.2.2.2.2.2.2.2.1 v.2.2.2.2.2.2.2.2.2.2.2.2.2.2.2.2.2.2.1 v.2.2.2.2.2.2.2.2.2.2.2.2.2.2.2.2.2.2.2.1 v.2.2.2.2.2.2.2.2.2.2.2.2.2.2.2.2.2.2.2.2.1 v.2.2.2.2.2.2.2.2.2.2.2.2.2.2.2.2.2.2.2.2.2) : P prog w C rows k₀ d j A s Q E base outer kd sh la td arr kk c q gsl := by
  unfold P
  intro ok hrows o lb
  have ih : ∀ k, k < k₀ → ∀ (d j : Nat) (A : Around) (s : Shared) (Q E : Value → Shared → Prop) (base : Heap) (outer : List Env) (kd sh la : Addr) (o : Obj) (td : Tok) (arr : List Value) (kk : Nat) (lb : List Item) (c q : Nat) (gsl : List Nat), d + k = 21 → j ≤ C.n → (0 < c → q < C.n) → (lb = [] ∨ ∃ b, lb = [.lab b]) → (∀ g, g ∈ gsl → 1 ≤ g ∧ g ≤ 4) → c ≤ 3 → gsl.length ≤ 2 → Wd w (hideAll s.heap [kd]) → Rm A (k + 12) (3 * k + 60) → Below A base outer (hideAll s.heap [kd]) → s.heap.get? kd = some o → MemoO prog w (VO C) C.n (hideAll s.heap [kd]) o j → (kd == sysModules) = false →
      (hideAll s.heap [kd]).get? la = some (lstO arr kk) → Its w (hideAll s.heap [kd]) arr (lb ++ (List.replicate c (.ref ((10 + q : Nat) : Int)) ++ gsl.map fun g => .ref ((g : Nat) : Int))) → ShelfAt prog w (hideAll s.heap [kd]) sh rows →
      (d ≤ 20 ∧ (0 < c → d + C.H q ≤ 20) → ∀ h' tk' t u1 u2 m o', (∀ b x, b ∉ [kd] → s.heap.get? b = some x → h'.get? b = some x) → h'.get? kd = some o' → MemoO prog w (VO C) C.n (hideAll h' [kd]) o' (if 0 < c then min j q else j) → t ≠ kd →
        h'.get? t = some (tupO [.int ((c * (C.cn q + C.labN q) + gsl.length : Nat) : Int) u1, .int ((if 0 < c then C.H q else 0 : Nat) : Int) u2] m) → Q (.ref t) { s with heap := h', toks := tk' }) →
      (20 < d ∨ (0 < c ∧ 20 < d + C.H q) → ∀ e h' tk', Fly base outer (hideAll s.heap [kd]) e h' → E (.ref e) { s with heap := h', toks := tk' }) →
      wpAny (model prog w) A (call (.ref 412) [.ref sh, .ref la, .int (d : Int) td, .ref kd]) Q E s := fun k hk d j A s Q E base outer kd sh la o td arr kk lb c q gsl => IH (prog, w, C, rows, k, d, j, A, s, Q, E, base, outer, kd, sh, la, td, arr, kk, c, q, gsl) hk ok hrows o lb
  clear IH
  intro hdk hj hq hlb hgs hc3 hg2 W R B hkd hm lo hla hI hs hret herr
  have R' : Rm A 8 40 := R.le (by (first | exact omq102 _ _ hdk | omega)) (by (first | exact omq103 _ _ hdk | omega))
  have R0 : ∀ env, Rm (A.deeper env) 8 40 := fun env => R.dp (by (first | exact omq104 _ _ hdk | omega)) (by (first | exact omq105 _ _ hdk | omega))
  have nt : NoTup [(kd, o)] := by
    intro p hp; rw [List.mem_singleton.mp hp]
    obtain ⟨es, ep, xs, e1, _⟩ := hm
    left
    show o.cls ≠ _
    rw [e1.1]; decide
  refine' enter (news := [(kd, o)]) ?hn ?hnd ?W ?ho ?hcd ?hroom ?hb ?hloc ?_ ?c1 ?c2 ?c3 ?c4
  (case hn => intro p hp; rw [List.mem_singleton.mp hp]; exact hkd)
  (case hnd => simp)
  (case W => exact W)
  (case ho => k_is)
  (case hcd => k_is)
  (case hroom => exact Rm.room (by assumption))
  (case hb => exact BindsTo.of_eq rfl)
  (case hloc => exact locs rfl)
  (case c1 => exact rfl)
  (case c2 => exact rfl)
  (case c3 => exact rfl)
  (case c4 => decide)
  intro h₁ tk₁ S k₁
  have lz1 := S.lz
  replace S : St w (hideAll s.heap [kd]) _ _ _ _ _ _ := S.names (l' := [("known", .ref kd), ("depth", .int (d : Int) td), ("items", .ref la), ("shelf", .ref sh)]) ⟨rfl, rfl, rfl, rfl, trivial⟩
  have room : ∀ env, (A.deeper env).units + 1 < cLine := fun env => by have := R'.hu; have := cLine_is; show A.units + 3 + 1 < cLine; (first | exact omq46 _ _ (by assumption) this | omega)
  repeat (walk_at "st")
  by_cases hd : 20 < d
  · refine ite_pos (by simp; (first | exact omq106 _ _ hdk hd | omega)) ?_
    repeat (walk_at "st")
    rename St _ _ _ _ _ _ _ _ => S
    exact raiseHere S B stays_refl (R'.le (by decide) (by decide)) ⟨rfl, rfl, rfl, rfl⟩ rfl rfl fun e h' tk' fly => herr (.inl hd) e h' tk' fly
  refine ite_neg (by simp; (first | exact omq107 _ _ hdk hd | omega)) ?_
  repeat (walk_at "st")
  rename St _ _ _ _ _ _ _ _ => S
  refine rUnp S (R0 _).hh (S.new (.head _)) rfl rfl ?_
  intro h5 k5 S
  replace S := S.tail
  repeat (walk_at "st")
  rename St _ _ _ _ _ _ _ _ => S
  have hlen : arr.length = lb.length + (c + gsl.length) := by rw [Its.length hI]; simp
  obtain ⟨g, hsh, hgs', hrs⟩ := hs.all
  have hlbl : lb.length ≤ 1 := by rcases hlb with rfl | ⟨b, rfl⟩ <;> simp
  refine forListR (OJ prog w C kd sh la d td j lb.length c q) S (R0 _).hh hla ?_ ?_ ?_
  · refine ⟨o, rfl, nt, rfl, by simpa using hm, by (first | exact omq108 _ _ _ _ hlbl | omega), ?_⟩
    simp only [Nat.zero_sub, Nat.zero_min, Nat.zero_mul, Nat.lt_irrefl, if_false, Nat.add_zero]
    exact ⟨_, _, rfl, rfl, rfl, rfl, rfl, rfl, trivial⟩
  · intro idx v h₀' l lc news h4 tk4 I oI hof hv k4 hJ S
    obtain ⟨o', rfl, nt', rfl, hm', hdeep, t1, t2, hsub⟩ := hJ
    replace S := S.names hsub
    obtain ⟨it, hit, hiv⟩ := Its.get (hI.keep k4) hv
    have hs4 := hs.keep k4
    have hsh4 := hsh.keep k4
    have hsh4' := hsh4
    obtain ⟨dsh, tb, tr, u1, u2, k1, f, s1, s2, s3, lo3, s4⟩ := hsh4'
    have ntI : ∀ o2, o2.cls ≠ .type "tuple" → NoTup [(I, oI), (kd, o2)] := by
      intro o2 ho2 p hp
      obtain ⟨vI, eI⟩ := hof
      rcases List.mem_cons.mp hp with rfl | hp
      · exact .inr fun vs n q => by rw [show oI.data = _ from eI] at q; cases q
      · rw [List.mem_singleton.mp hp]; exact .inl ho2
    have mcls : ∀ {h o2 j2}, MemoO prog w (VO C) C.n h o2 j2 → o2.cls ≠ .type "tuple" := fun m => by
      obtain ⟨es, ep, xs, e1, _⟩ := m; rw [e1.1]; decide
    have hidx : idx < lb.length + (c + gsl.length) := by
      rw [← hlen]; exact (List.getElem?_eq_some_iff.mp hv).1
    by_cases hA : idx < lb.length
    · rcases hlb with rfl | ⟨b, rfl⟩
      · exact absurd hA (by simp)
      have hi0 : idx = 0 := by simpa using hA
      subst hi0
      have : it = .lab b := by simpa using hit.symm
      subst this
      obtain ⟨r, rfl, hr⟩ := hiv
      have hr' := hr
      obtain ⟨dr, t3, t4, t5, k2, r1, r2⟩ := hr'
      repeat (walk_at "st")
      rename St _ _ _ _ _ _ _ _ => S
      refine fetch_self S.wdh ((R0 _).le (by decide) (by decide)) (.inr ⟨_, hr.keep S.out⟩) fun h' tk' k => ?_
      replace S := S.keeps k
      repeat (walk_at "st")
      rename St _ _ _ _ _ _ _ _ => S
      refine is_group S.wdh ((R0 _).le (by decide) (by decide)) (hs4.keep S.out) (.inr (.inr ⟨b, ⟨r, rfl, hr.keep S.out⟩, rfl⟩)) fun h' tk' k => ?_
      replace S := S.keeps k
      repeat (walk_at "st")
      rename St _ _ _ _ _ _ _ _ => S
      refine isi_str_list S.kin (S.base r1) (S.base r2) fun tk => ?_
      repeat (walk_at "st")
      rename St _ _ _ _ _ _ _ _ => S
      have e0 : min (0 - [Item.lab b].length) c = 0 := by simp
      have e1 : min (0 + 1 - [Item.lab b].length) c = 0 := by simp
      have e2 : 0 - [Item.lab b].length - c = 0 := by simp
      have e3 : 0 + 1 - [Item.lab b].length - c = 0 := by simp
      rw [e0, e2] at S
      rw [e0] at hm'
      refine ⟨_, _, _, _, _, _, rfl, stays_refl, ⟨o', rfl, nt', rfl, by rw [e1]; exact hm', fun _ => by simp, t1, t2, ?_⟩, S⟩
      rw [e1, e3]
      exact ⟨rfl, rfl, rfl, rfl, rfl, rfl, trivial⟩
    by_cases hB : idx < lb.length + c
    · have e1 : it = .ref ((10 + q : Nat) : Int) := by
        rw [List.getElem?_append_right (by (first | exact omq109 _ _ hA | omega)), List.getElem?_append_left (by rw [List.length_replicate]; (first | exact omq110 _ _ _ _ _ hlen hA hB | omega)), List.getElem?_replicate, if_pos (by (first | exact omq110 _ _ _ _ _ hlen hA hB | omega))] at hit
        exact (Option.some.inj hit).symm
      subst e1
      have hqn := hq (by (first | exact omq111 _ _ _ _ _ hc3 hlen hA hB | omega))
      obtain ⟨r, rfl, hr⟩ := hiv
      have hr' := hr
      obtain ⟨dr, t3, t4, t5, t6, k2, r1, r2⟩ := hr'
      obtain ⟨ro, arr2, kr, hgo, hL, hI2⟩ := hrs _ _ (hrows q hqn)
      have hL4 := k4 _ _ hL
      repeat (walk_at "st")
      rename St _ _ _ _ _ _ _ _ => S
      refine fetch_ref S.wdh ((R0 _).le (by decide) (by decide)) (hsh4.keep S.out) (hr.keep S.out) hgo (.inl ⟨_, _, S.base hL4⟩) fun h' tk' k => ?_
      replace S := S.keeps k
      repeat (walk_at "st")
      rename St _ _ _ _ _ _ _ _ => S
      refine is_group S.wdh ((R0 _).le (by decide) (by decide)) (hs4.keep S.out) (.inr (.inl ⟨_, _, hrows q hqn, ⟨r, rfl, hr.keep S.out⟩, rfl⟩)) fun h' tk' k => ?_
      replace S := S.keeps k
      repeat (walk_at "st")
      rename St _ _ _ _ _ _ _ _ => S
      refine IsiPair.list_list (S.base hL4) rfl ?_
      repeat (walk_at "st")
      rename St _ _ _ _ _ _ _ _ => S
      refine isi_ref_ref S.kin (S.base r1) (S.base r2) fun tk => ?_
      repeat (walk_at "st")
      rename St _ _ _ _ _ _ _ _ => S
      refine pair S.wdh ((R0 _).le (by decide) (by decide)) (hr.keep S.out) fun h' tk' mk tm um k hmk => ?_
      replace S := S.keeps k
      replace hmk := S.tup (ntI o' (mcls hm')) hmk rfl rfl
      obtain ⟨S2, kz⟩ := S.freeze
      clear S
      generalize hideAll h' _ = h₅ at S2 kz hmk
      iterate 3 (walk_at "st")
      rename St _ _ _ _ _ _ _ _ => S
      have hm5 := hm'.keep kz
      have hHq := ok.H1 q
      have k05 : (hideAll s.heap [kd]).StaysIn h₅ := stays_trans k4 kz
      have hH2 : 0 < C.cnt q → C.H q = C.H (C.nx q) + 1 ∨ (21 ≤ C.H q ∧ 21 ≤ C.H (C.nx q)) := ok.HS q hqn
      have hH0 : C.cnt q = 0 → C.H q = 1 := ok.H0 q hqn
      replace S := S.names (l' := [("mark", .ref mk), ("inner", .ref ro), ("item", .ref r), ("count", _), ("levels", _), ("items", .ref la), ("shelf", .ref sh), ("depth", .int (d : Int) td), ("known", .ref kd)]) ⟨rfl, rfl, rfl, rfl, rfl, rfl, rfl, rfl, rfl, trivial⟩
      have hjn : (if 0 < min (idx - lb.length) c then min j q else j) ≤ C.n := by split <;> (first | exact omq112 _ _ _ hj hqn | exact omq75 _ _ hj | omega)
      generalize hjj : (if 0 < min (idx - lb.length) c then min j q else j) = jj at hm' hm5 hjn
      generalize hcv : Value.int ((min (idx - lb.length) c * (C.cn q + C.labN q) + (idx - lb.length - c) : Nat) : Int) t1 = vc at S
      generalize hlv : Value.int ((if 0 < min (idx - lb.length) c then C.H q else 0 : Nat) : Int) t2 = vl at S
      refine wpAny_mono (Q := fun v s' => ∃ b mb u1 u2 o2 h2 tk2 h₀2, v = .ref b ∧ s' = { s with heap := h2, toks := tk2 } ∧ h₅.StaysIn h₀2 ∧
        St w h₀2 s.heap.objs.size [] [("mark", .ref mk), ("inner", .ref ro), ("item", .ref r), ("count", vc), ("levels", vl), ("items", .ref la), ("shelf", .ref sh), ("depth", .int (d : Int) td), ("known", .ref kd)] [] [(I, oI), (kd, o2)] h2 ∧
        h₀2.get? b = some (tupO [.int (C.cn q : Nat) u1, .int ((C.H q - 1 : Nat) : Int) u2] mb) ∧ ((jj ≤ q ∧ MemoO prog w (VO C) C.n h₀2 o2 jj) ∨ (¬ jj ≤ q ∧ d + C.H q ≤ 20 ∧ MemoO prog w (VO C) C.n h₀2 o2 (q + 1)))) ?_ (fun v s' hmid => ?_) fun _ _ e => e
      · repeat (walk_at "st")
        rename St _ _ _ _ _ _ _ _ => S
        refine memoIn hm5 S.out (S.new (.tail _ (.head _))) (S.base hmk) hqn (room _) lo fun tk => ?_
        repeat (walk_at "st")
        by_cases hjq : jj ≤ q
        · refine ite_pos (decide_eq_true hjq) ?_
          repeat (walk_at "st")
          rename St _ _ _ _ _ _ _ _ => S
          refine memoItem hm5 S.out (S.new (.tail _ (.head _))) (S.base hmk) hjq hqn (room _) fun tk b mb items hb hv => ?_
          obtain ⟨u1, u2, rfl⟩ := hv
          have hb' := S.tup (ntI o' (mcls hm')) hb rfl rfl
          obtain ⟨S3, kz3⟩ := S.freeze
          exact ⟨b, mb, u1, u2, o', _, _, _, rfl, rfl, kz3, S3, hb', .inl ⟨hjq, hm5.keep kz3⟩⟩
        · refine ite_neg (by simpa using hjq) ?_
          repeat (walk_at "st")
          rename St _ _ _ _ _ _ _ _ => S
          have pK := S.nw _ (.tail _ (.head _))
          have kW : h₅.StaysIn (hideAll _ [kd]) := fun b x e => hideAll_get _ (S.base e) (fun q => by rw [List.mem_singleton.mp q, pK.2.2] at e; cases e)
          obtain ⟨oL, esL, nL, hLo, hLd⟩ := S.here
          rw [show (d : Int) + 1 = ((d + 1 : Nat) : Int) from rfl]
          refine ih (k₀ - 1) (by (first | exact omq113 _ _ hdk hd | omega)) (d + 1) jj _ _ _ _ base _ kd sh ro o' _ arr2 kr (C.lb q) (C.cnt q) (C.nx q) (C.gs q) (by (first | exact omq114 _ _ hdk hd | omega)) hjn (fun _ => ok.nx_lt q hqn) (C.lb_cases q) (fun g hg => ok.gs_in q g hqn hg) (ok.small q hqn).1 (ok.small q hqn).2 (S.wd.keeps kW) (R.dp (by (first | exact omq115 _ _ hdk hd | omega)) (by (first | exact omq116 _ _ hdk hd | omega))) (belowAt B (stays_trans k05 kW) rfl rfl (hideAll_get _ hLo (fun q => pK.2.1 (List.mem_singleton.mp q).symm)) (fun vs q => by rw [hLd] at q; cases q) (fresh_of_stays B.stays lz1)) pK.1 (hm5.keep kW) lo (kW _ _ (kz _ _ hL4)) (Its.keep (stays_trans k05 kW) hI2) (hs4.keep (stays_trans kz kW)) ?_ ?_
          · rintro ⟨hd1, hd2⟩ h' tk' t u1 u2 m o'' kk' hkd' hm'' hne ht
            have h20 : d + C.H q ≤ 20 := by
              rcases Nat.eq_zero_or_pos (C.cnt q) with z | z
              · have := hH0 z; (first | exact omq117 _ _ _ hdk hd hd1 this | omega)
              · have := hd2 z; rcases hH2 z with y | y <;> (first | exact omq118 _ _ _ _ hdk this y | exact omq119 _ _ _ _ hdk hd hd1 this y | omega)
            have S' := S.turn (pre := [(I, oI)]) (post := []) hm5.noCell kk' hkd'
            have nt2 := ntI o'' (mcls hm'')
            rw [← ok.cnt_ q hqn (by (first | exact omq120 _ _ _ hdk hd hd1 h20 | omega))] at ht
            have hlev : (if 0 < C.cnt q then C.H (C.nx q) else 0) = C.H q - 1 := by
              rcases Nat.eq_zero_or_pos (C.cnt q) with z | z
              · rw [if_neg (by (first | exact omq121 _ z | omega))]; have := hH0 z; (first | exact omq122 _ this | omega)
              · rw [if_pos z]; rcases hH2 z with y | y <;> (first | exact omq123 _ _ hHq y | exact omq124 _ _ _ _ hdk hd hd1 h20 y | omega)
            rw [hlev] at ht
            have ht' := S'.tup nt2 ht rfl rfl
            obtain ⟨S'', kz''⟩ := S'.freeze
            have hmi : (if 0 < C.cnt q then min jj (C.nx q) else jj) = q + 1 := by
              rcases Nat.eq_zero_or_pos (C.cnt q) with z | z
              · rw [if_neg (by (first | exact omq121 _ z | omega))]; have := ok.last q hqn z; (first | exact omq85 _ _ _ hjn hjq this | omega)
              · rw [if_pos z]; have := ok.ord q hqn z (by (first | exact omq120 _ _ _ hdk hd hd1 h20 | omega)); (first | exact omq79 _ _ _ hjq this | omega)
            rw [hmi] at hm''
            exact ⟨t, m, u1, u2, o'', h', tk', _, rfl, rfl, kz'', S'', ht', .inr ⟨hjq, h20, hm''.frz S' nt2 (fun b x e => of_hideAll _ e)⟩⟩
          · intro hdp e h' tk' fly
            refine leaveOn B (stays_trans k05 kW) fly rfl fun h3 fl => herr (.inr ⟨by (first | exact omq111 _ _ _ _ _ hc3 hlen hA hB | omega), ?_⟩) e h3 _ fl
            rcases hdp with y | ⟨z, y⟩
            · (first | exact omq125 _ _ _ hdk hd hHq y | omega)
            · rcases hH2 z with y2 | y2 <;> (first | exact omq126 _ _ _ _ hdk y y2 | exact omq127 _ _ _ _ hdk hd y2 | omega)
      · obtain ⟨b, mb, u1, u2, o2, h2, tk2, h₀2, rfl, rfl, k2', S, hb, hmm⟩ := hmid
        have hs2 := hs4.keep (stays_trans kz k2')
        have hsh2 := hsh4.keep (stays_trans kz k2')
        have hmk2 := k2' _ _ hmk
        have hL2 := k2' _ _ (kz _ _ hL4)
        have mc2 : o2.cls ≠ .type "tuple" := by
          rcases hmm with ⟨_, x⟩ | ⟨_, _, x⟩ <;> exact mcls x
        repeat (walk_at "st")
        rename St _ _ _ _ _ _ _ _ => S
        refine rItemT (S.base hb) (by decide) (by decide) rfl rfl ?_
        repeat (walk_at "st")
        by_cases hdp : 20 < d + C.H q
        · refine ite_pos (by simp; (first | exact omq128 _ _ _ hdk hHq hdp | omega)) ?_
          repeat (walk_at "st")
          rename St _ _ _ _ _ _ _ _ => S
          exact raiseHere S B (stays_trans k05 k2') (R'.le (by decide) (by decide)) ⟨rfl, rfl, rfl, rfl⟩ rfl rfl fun e h' tk' fly => herr (.inr ⟨by (first | exact omq111 _ _ _ _ _ hc3 hlen hA hB | omega), hdp⟩) e h' tk' fly
        refine ite_neg (by simp; (first | exact omq129 _ _ _ hdk hHq hdp | omega)) ?_
        repeat (walk_at "st")
        refine PyProof.Rows.isnot_ref_none ?_
        repeat (walk_at "st")
        rename St _ _ _ _ _ _ _ _ => S
        replace S := S.names (l' := [("below", .ref b), ("mark", .ref mk), ("inner", .ref ro), ("item", .ref r), ("count", vc), ("levels", vl), ("items", .ref la), ("shelf", .ref sh), ("depth", .int (d : Int) td), ("known", .ref kd)]) ⟨rfl, rfl, rfl, rfl, rfl, rfl, rfl, rfl, rfl, rfl, trivial⟩
        refine wpAny_mono (Q := fun _ s' => ∃ o3 h3 tk3 h₀3, s' = { s with heap := h3, toks := tk3 } ∧ h₀2.StaysIn h₀3 ∧
          St w h₀3 s.heap.objs.size [] [("below", .ref b), ("mark", .ref mk), ("inner", .ref ro), ("item", .ref r), ("count", vc), ("levels", vl), ("items", .ref la), ("shelf", .ref sh), ("depth", .int (d : Int) td), ("known", .ref kd)] [] [(I, oI), (kd, o3)] h3 ∧ MemoO prog w (VO C) C.n h₀3 o3 (min jj q)) ?_ (fun v s' hmid => ?_) fun _ _ e => e
        · rcases hmm with ⟨hjq, hm2⟩ | ⟨hjq, _, hm2⟩
          · refine memoSet2 (pre := [(I, oI)]) (post := []) hm2 hjq S (ntI o2 mc2) (S.base hmk2) (S.base hb) ⟨_, _, rfl⟩ hqn ok.n100 (room _) fun h' o3 tk h₀3 kz3 kz4 hm3 S hsb => ?_
            exact ⟨o3, h', tk, h₀3, rfl, kz3, S, by rw [Nat.min_eq_left hjq]; exact hm3⟩
          · refine memoSet (pre := [(I, oI)]) (post := []) hm2 S (ntI o2 mc2) (S.base hmk2) (S.base hb) ⟨_, _, rfl⟩ hqn ok.n100 (room _) fun h' o3 tk h₀3 kz3 kz4 hm3 S hsb => ?_
            exact ⟨o3, h', tk, h₀3, rfl, kz3, S, by rw [Nat.min_eq_right (by (first | exact omq130 _ _ hjq | omega))]; exact hm3⟩
        obtain ⟨o3, h3, tk3, h₀3, rfl, k3', S, hm3⟩ := hmid
        have hb3 := k3' _ _ hb
        have hs3 := hs2.keep k3'
        have hL3 := k3' _ _ hL2
        have hI3 := Its.keep (stays_trans k05 (stays_trans k2' k3')) hI2
        subst hcv
        subst hlv
        repeat (walk_at "st")
        rename St _ _ _ _ _ _ _ _ => S
        refine rItemT (S.base hb3) (by decide) (by decide) rfl rfl ?_
        repeat (walk_at "st")
        rename St _ _ _ _ _ _ _ _ => S
        obtain ⟨it2, its2, hfirst, hlabq⟩ := C.first ok rows hrows q hqn
        rw [show C.lb q ++ C.parts q = it2 :: its2 from hfirst] at hI3
        refine is_labelled (b := (C.lab q).isSome) S.wdh ((R0 _).le (by decide) (by decide)) (hs3.keep S.out) (S.base hL3) (Its.keep S.out hI3) (by
          rcases hlabq with ⟨x, y, z⟩ | ⟨n, y, z, u⟩
          · exact .inl ⟨x, y, z⟩
          · exact .inr ⟨n, y, z, u⟩) fun h' tk' k => ?_
        replace S := S.keeps k
        have hP : min (idx - lb.length) c = idx - lb.length := by (first | exact omq131 _ _ _ _ _ hlen hA hB | omega)
        have hP1 : min (idx + 1 - lb.length) c = idx - lb.length + 1 := by (first | exact omq132 _ _ _ _ _ hlen hA hB | omega)
        have hG : idx - lb.length - c = 0 := by (first | exact omq133 _ _ _ _ _ hlen hB | omega)
        have hG1 : idx + 1 - lb.length - c = 0 := by (first | exact omq134 _ _ _ _ _ hlen hB | omega)
        have fin : ∀ (h7 : Heap) (tk7 : Nat) (t3 t4 : Tok) (l7 : List (Str × Value)), St w h₀3 s.heap.objs.size [] l7 [] [(I, oI), (kd, o3)] h7 →
            Sub l7 [("count", .int (((min (idx - lb.length) c * (C.cn q + C.labN q) + (idx - lb.length - c) : Nat) : Int) + (C.cn q : Nat) + (C.labN q : Nat)) t3), ("levels", .int ((C.H q : Nat) : Int) t4), ("items", .ref la), ("shelf", .ref sh), ("depth", .int (d : Int) td), ("known", .ref kd)] →
            TurnedR w s h₀' s.heap.objs.size [] (OJ prog w C kd sh la d td j lb.length c q (idx + 1)) I oI { s with heap := h7, toks := tk7 } := by
          intro h7 tk7 t3 t4 l7 S7 hsub7
          refine ⟨h₀3, l7, [], [(kd, o3)], h7, tk7, rfl, stays_trans kz (stays_trans k2' k3'), ⟨o3, rfl, fun p hp => ntI o3 (mcls hm3) p (.tail _ hp), rfl, ?_, fun hh => by (first | exact omq135 _ _ _ _ _ _ hdk hdp hh | omega), t3, t4, ?_⟩, S7⟩
          · rw [hP1, if_pos (Nat.succ_pos _)]
            have : min jj q = min j q := by rw [← hjj, hP]; split <;> (first | exact omq136 _ _ | exact omq137 _ _ | omega)
            rw [← this]; exact hm3
          · rw [hP1, hG1, if_pos (Nat.succ_pos _)]
            have e : ((((idx - lb.length + 1) * (C.cn q + C.labN q) + 0 : Nat)) : Int) = ((min (idx - lb.length) c * (C.cn q + C.labN q) + (idx - lb.length - c) : Nat) : Int) + (C.cn q : Nat) + (C.labN q : Nat) := by
              rw [hP, hG, Nat.add_mul]; (first | exact omq138 _ _ _ | omega)
            rw [e]; exact hsub7
        have hmax : ∀ {K : Value → Shared → Prop} {E' : Value → Shared → Prop} {s7 : Shared} {A' : Around} (hh : A'.handled = none) (t5 t6 : Tok), (∀ h' tk t, s7.heap.StaysIn h' → K (.int ((C.H q : Nat) : Int) t) { s7 with heap := h', toks := tk }) →
            wpAny (model prog w) A' (call (.builtin "max") [.int ((if 0 < min (idx - lb.length) c then C.H q else 0 : Nat) : Int) t5, .int (1 + ((C.H q - 1 : Nat) : Int)) t6]) K E' s7 := by
          intro K E' s7 A' hh t5 t6 hK
          refine max_two_ints hh fun h' tk hk => ?_
          have e : (1 : Int) + ((C.H q - 1 : Nat) : Int) = ((C.H q : Nat) : Int) := by (first | exact omq139 _ hHq | omega)
          rw [e]
          by_cases z : 0 < min (idx - lb.length) c
          · rw [if_pos z, if_neg (by (first | exact omq140 _ | omega))]; exact hK _ _ _ hk
          · rw [if_neg z, if_pos (by (first | exact omq141 _ hHq e | omega))]; exact hK _ _ _ hk
        repeat (walk_at "st")
        by_cases hls : (C.lab q).isSome = true
        · refine ite_pos hls ?_
          have hlabN : C.labN q = 1 := by unfold OChain.labN; rw [if_pos hls]
          repeat (walk_at "st")
          rename St _ _ _ _ _ _ _ _ => S
          refine rItemT (S.base hb3) (by decide) (by decide) rfl rfl ?_
          repeat (walk_at "st")
          rename St _ _ _ _ _ _ _ _ => S
          refine hmax (R0 _).hh _ _ fun h' tk t k => ?_
          replace S := S.keeps k
          repeat (walk_at "st")
          rename St _ _ _ _ _ _ _ _ => S
          obtain ⟨a1, a2, a3, a4, a5, a6, a7, a8, a9, a10⟩ := fin _ _ _ _ _ S (by rw [hlabN]; exact ⟨rfl, rfl, rfl, rfl, rfl, rfl, trivial⟩)
          exact ⟨a1, a2, a3, a4, a5, a6, a7, a8, a9, a10⟩
        · refine ite_neg hls ?_
          have hlabN : C.labN q = 0 := by unfold OChain.labN; rw [if_neg hls]
          repeat (walk_at "st")
          rename St _ _ _ _ _ _ _ _ => S
          refine rItemT (S.base hb3) (by decide) (by decide) rfl rfl ?_
          repeat (walk_at "st")
          rename St _ _ _ _ _ _ _ _ => S
          refine hmax (R0 _).hh _ _ fun h' tk t k => ?_
          replace S := S.keeps k
          repeat (walk_at "st")
          rename St _ _ _ _ _ _ _ _ => S
          obtain ⟨a1, a2, a3, a4, a5, a6, a7, a8, a9, a10⟩ := fin _ _ _ _ _ S (by rw [hlabN]; exact ⟨rfl, rfl, rfl, rfl, rfl, rfl, trivial⟩)
          exact ⟨a1, a2, a3, a4, a5, a6, a7, a8, a9, a10⟩
    · obtain ⟨gg, hgg, rfl⟩ : ∃ gg, gsl[idx - lb.length - c]? = some gg ∧ it = .ref ((gg : Nat) : Int) := by
        rw [List.getElem?_append_right (by (first | exact omq109 _ _ hA | omega)), List.getElem?_append_right (by rw [List.length_replicate]; (first | exact omq142 _ _ _ _ _ hc3 hlen hA hB | omega)), List.length_replicate, List.getElem?_map] at hit
        obtain ⟨x, h1, h2⟩ := Option.map_eq_some_iff.mp hit
        exact ⟨x, h1, h2.symm⟩
      obtain ⟨g1, g4⟩ := hgs gg (List.mem_of_getElem? hgg)
      obtain ⟨r, rfl, hr⟩ := hiv
      obtain ⟨og, hog, nmg, tt, kg, hG, hN, log⟩ := hgs' (gg : Int) (by (first | exact omq40 _ g1 g4 | omega)) (by (first | exact omq41 _ g1 g4 | omega))
      repeat (walk_at "st")
      rename St _ _ _ _ _ _ _ _ => S
      refine fetch_ref S.wdh ((R0 _).le (by decide) (by decide)) (hsh4.keep S.out) (hr.keep S.out) hog (.inr ⟨_, _, S.base (k4 _ _ hG)⟩) fun h' tk' k => ?_
      replace S := S.keeps k
      repeat (walk_at "st")
      rename St _ _ _ _ _ _ _ _ => S
      refine is_group S.wdh ((R0 _).le (by decide) (by decide)) (hs4.keep S.out) (.inl ⟨(gg : Int), by (first | exact omq40 _ g1 g4 | omega), by (first | exact omq41 _ g1 g4 | omega), ⟨r, rfl, hr.keep S.out⟩, rfl⟩) fun h' tk' k => ?_
      replace S := S.keeps k
      repeat (walk_at "st")
      rename St _ _ _ _ _ _ _ _ => S
      have hP : min (idx - lb.length) c = c := by (first | exact omq143 _ _ _ _ _ hc3 hlen hA hB | omega)
      have hP1 : min (idx + 1 - lb.length) c = c := by (first | exact omq144 _ _ _ _ _ hlen hA hB hP | omega)
      have hG1 : idx + 1 - lb.length - c = idx - lb.length - c + 1 := by (first | exact omq145 _ _ _ _ _ hlen hB hP hP1 | omega)
      rw [hP] at S hm'
      refine ⟨_, _, _, _, _, _, rfl, stays_refl, ⟨o', rfl, nt', rfl, by rw [hP1]; exact hm', fun hh => by have := hdeep hh; (first | exact omq146 _ _ _ _ _ _ _ hc3 hlen hA hB hP hP1 hh this | omega), ?_⟩, S⟩
      rw [hP1, hG1]
      have e : ((c * (C.cn q + C.labN q) + (idx - lb.length - c + 1) : Nat) : Int) = ((c * (C.cn q + C.labN q) + (idx - lb.length - c) : Nat) : Int) + 1 := by (first | exact omq147 _ _ _ _ | omega)
      rw [e]
      exact ⟨_, t2, rfl, rfl, rfl, rfl, rfl, rfl, trivial⟩
  · intro h₀' l lc news h4 tk4 k4 hJ S
    obtain ⟨o', rfl, nt', rfl, hm', hdeep, t1, t2, hsub⟩ := hJ
    replace S := S.names hsub
    repeat (walk_at "st")
    rename St _ _ _ _ _ _ _ _ => S
    have e1 : min (arr.length - lb.length) c = c := by (first | exact omq148 _ _ _ _ hc3 hg2 hlen | omega)
    have e2 : arr.length - lb.length - c = gsl.length := by (first | exact omq149 _ _ _ _ hg2 hlen e1 | omega)
    rw [e1, e2] at S
    rw [e1] at hm'
    have pK := S.nw _ (.tail _ (.head _))
    have pT := S.nw _ (.head _)
    have kk2 : (hideAll s.heap [kd]).StaysIn h₀' := k4
    refine hret ⟨by (first | exact omq150 _ _ hdk hd | omega), fun hc => ?_⟩ _ _ _ _ _ _ o' (fun b x hb hx => S.base (kk2 _ _ (hideAll_get _ hx hb))) pK.1 (hm'.keep fun b x hx => hideAll_get _ (S.base hx) (fun q => by rw [List.mem_singleton.mp q, pK.2.2] at hx; cases hx)) ?_ pT.1
    · by_cases h20 : 20 < d + C.H q
      · have := hdeep ⟨hc, h20⟩; (first | exact omq151 _ _ _ _ _ _ hc3 hg2 hlen hlbl e1 e2 hc this | omega)
      · (first | exact omq152 _ _ _ hdk h20 | omega)
    · have nd := S.nd
      rw [List.map_cons, List.nodup_cons] at nd
      exact fun q => nd.1 (by rw [q]; exact .head _)
end osizeC
section
variable {prog : Program} {w : World} {A : Around} {Q E : Value → Shared → Prop} {s : Shared} 
theorem osize (C : OChain) (ok : C.OkO) (rows : Int → Option (List Item)) (hrows : ∀ i, i < C.n → rows ((10 + i : Nat) : Int) = some (C.lb i ++ C.parts i)) : ∀ (k d j : Nat) (A : Around) (s : Shared) (Q E : Value → Shared → Prop) (base : Heap) (outer : List Env) (kd sh la : Addr) (o : Obj) (td : Tok) (arr : List Value) (kk : Nat) (lb : List Item) (c q : Nat) (gsl : List Nat),
      d + k = 21 → j ≤ C.n → (0 < c → q < C.n) → (lb = [] ∨ ∃ b, lb = [.lab b]) → (∀ g, g ∈ gsl → 1 ≤ g ∧ g ≤ 4) → c ≤ 3 → gsl.length ≤ 2 → Wd w (hideAll s.heap [kd]) → Rm A (k + 12) (3 * k + 60) → Below A base outer (hideAll s.heap [kd]) → s.heap.get? kd = some o → MemoO prog w (VO C) C.n (hideAll s.heap [kd]) o j → (kd == sysModules) = false →
      (hideAll s.heap [kd]).get? la = some (lstO arr kk) → Its w (hideAll s.heap [kd]) arr (lb ++ (List.replicate c (.ref ((10 + q : Nat) : Int)) ++ gsl.map fun g => .ref ((g : Nat) : Int))) → ShelfAt prog w (hideAll s.heap [kd]) sh rows →
      (d ≤ 20 ∧ (0 < c → d + C.H q ≤ 20) → ∀ h' tk' t u1 u2 m o', (∀ b x, b ∉ [kd] → s.heap.get? b = some x → h'.get? b = some x) → h'.get? kd = some o' → MemoO prog w (VO C) C.n (hideAll h' [kd]) o' (if 0 < c then min j q else j) → t ≠ kd →
        h'.get? t = some (tupO [.int ((c * (C.cn q + C.labN q) + gsl.length : Nat) : Int) u1, .int ((if 0 < c then C.H q else 0 : Nat) : Int) u2] m) → Q (.ref t) { s with heap := h', toks := tk' }) →
      (20 < d ∨ (0 < c ∧ 20 < d + C.H q) → ∀ e h' tk', Fly base outer (hideAll s.heap [kd]) e h' → E (.ref e) { s with heap := h', toks := tk' }) →
      wpAny (model prog w) A (call (.ref 412) [.ref sh, .ref la, .int (d : Int) td, .ref kd]) Q E s := fun k d j A s Q E base outer kd sh la o td arr kk lb c q gsl => worst_all (α := osizeC.V) (default, Cx.one.w, { n := 0, cnt := fun _ => 0, gs := fun _ => [], nx := fun _ => 0, H := fun _ => 0, lab := fun _ => none, cn := fun _ => 0 }, fun _ => none, (0 : Nat), (0 : Nat), (0 : Nat), {}, Cx.one.s, fun _ _ => True, fun _ _ => True, default, [], (0 : Nat), (0 : Nat), (0 : Nat), (0 : Nat), [], (0 : Nat), (0 : Nat), (0 : Nat), []) (fun v : osizeC.V => v.2.2.2.2.1) (fun v => osizeC.P v.1 v.2.1 v.2.2.1 v.2.2.2.1 v.2.2.2.2.1 v.2.2.2.2.2.1 v.2.2.2.2.2.2.1 v.2.2.2.2.2.2.2.1 v.2.2.2.2.2.2.2.2.1 v.2.2.2.2.2.2.2.2.2.1 v.2.2.2.2.2.2.2.2.2.2.1 v.2.2.2.2.2.2.2.2.2.2.2.1 v.2.2.2.2.2.2.2.2.2.2.2.2.1 v.2.2.2.2.2.2.2.2.2.2.2.2.2.1 v.2.2.2.2.2.2.2.2.2.2.2.2.2.2.1 v.2.2.2.2.2.2.2.2.2.2.2.2.2.2.2.1 v.2.2.2.2.2.2.2.2.2.2.2.2.2.2.2.2.1 v.2.2.2.2.2.2.2.2.2.2.2.2.2.2.2.2.2.1 v.2.2.2.2.2.2.2.2.2.2.2.2.2.2.2.2.2.2.1 v.2.2.2.2.2.2.2.2.2.2.2.2.2.2.2.2.2.2.2.1 v.2.2.2.2.2.2.2.2.2.2.2.2.2.2.2.2.2.2.2.2.1 v.2.2.2.2.2.2.2.2.2.2.2.2.2.2.2.2.2.2.2.2.2) osizeC.at_c (prog, w, C, rows, k, d, j, A, s, Q, E, base, outer, kd, sh, la, td, arr, kk, c, q, gsl) ok hrows o lb
end

/-! QF7 -/
section
variable {prog : Program} {w : World} {A : Around} {Q E : Value → Shared → Prop} {s : Shared} 

inductive RowT where
  | grp (d n : Nat)
  | lab (d : Nat) (b : Array UInt8)
noncomputable def RowIs (h : Heap) (v : Value) : RowT → Prop
  | .grp d n => ∃ t t1 t2 t3 m, v = .ref t ∧ h.get? t = some (tupO [.str "group" t1, .int (d : Int) t2, .int (n : Int) t3] m)
  | .lab d b => ∃ t t1 t2 t3 m, v = .ref t ∧ h.get? t = some (tupO [.str "label" t1, .int (d : Int) t2, .bytes b t3] m)
noncomputable def RowsAre (h : Heap) : List Value → List RowT → Prop
  | [], [] => True
  | v :: vs, r :: rs => RowIs h v r ∧ RowsAre h vs rs
  | _, _ => False
theorem RowIs.keep {h h' : Heap} {v : Value} {r : RowT} (x : RowIs h v r) (k : h.StaysIn h') : RowIs h' v r := by
  cases r with
  | grp d n => obtain ⟨t, t1, t2, t3, m, e1, e2⟩ := x; exact ⟨t, t1, t2, t3, m, e1, k _ _ e2⟩
  | lab d n => obtain ⟨t, t1, t2, t3, m, e1, e2⟩ := x; exact ⟨t, t1, t2, t3, m, e1, k _ _ e2⟩
theorem RowsAre.keep {h h' : Heap} (k : h.StaysIn h') : ∀ {vs : List Value} {rs : List RowT}, RowsAre h vs rs → RowsAre h' vs rs
  | [], [], _ => trivial
  | _ :: _, _ :: _, ⟨a, b⟩ => ⟨a.keep k, RowsAre.keep k b⟩
  | [], _ :: _, x => x
  | _ :: _, [], x => x
theorem RowsAre.append {h : Heap} : ∀ {vs us : List Value} {rs ts : List RowT}, RowsAre h vs rs → RowsAre h us ts → RowsAre h (vs ++ us) (rs ++ ts)
  | [], _, [], _, _, y => y
  | _ :: _, _, _ :: _, _, ⟨a, b⟩, y => ⟨a, RowsAre.append b y⟩
  | [], _, _ :: _, _, x, _ => x.elim
  | _ :: _, _, [], _, x, _ => x.elim
theorem RowsAre.length {h : Heap} : ∀ {vs : List Value} {rs : List RowT}, RowsAre h vs rs → vs.length = rs.length
  | [], [], _ => rfl
  | _ :: _, _ :: _, ⟨_, b⟩ => by rw [List.length_cons, List.length_cons, RowsAre.length b]
  | [], _ :: _, x => x.elim
  | _ :: _, [], x => x.elim
/-- the rows of a node, its label among them -/
noncomputable def OChain.nrows (C : OChain) : Nat → Nat → Nat → List RowT
  | 0, _, _ => []
  | f + 1, q, d => (match C.lab q with | some b => [.lab d b] | none => []) ++ ((List.replicate (C.cnt q) (C.nrows f (C.nx q) (d + 1))).flatten ++ (C.gs q).map (.grp (d + 1)))
theorem OChain.nrows_len (C : OChain) (ok : C.OkO) : ∀ (f q d : Nat), q < C.n → C.H q ≤ f → C.H q ≤ 20 → (C.nrows f q d).length = C.cn q + C.labN q
  | 0, q, d, hq, hf, _ => by have := ok.H1 q; (first | exact omq153 _ _ _ _ hf this | omega)
  | f + 1, q, d, hq, hf, h20 => by
    have e1 : (match C.lab q with | some b => [RowT.lab d b] | none => []).length = C.labN q := by
      unfold OChain.labN; cases C.lab q <;> rfl
    unfold OChain.nrows
    rw [List.length_append, List.length_append, lm_len_rep_flat, List.length_map, e1, ok.cnt_ q hq h20]
    rcases Nat.eq_zero_or_pos (C.cnt q) with z | z
    · rw [z]; (first | exact omq154 _ _ _ _ _ | omega)
    · have h3 : C.H q = C.H (C.nx q) + 1 := by rcases ok.HS q hq z with y | y <;> (first | exact omq70 _ _ y | exact omq155 _ _ h20 y | omega)
      rw [OChain.nrows_len C ok f (C.nx q) (d + 1) (ok.nx_lt q hq) (by (first | exact omq156 _ _ _ hf h3 | omega)) (by (first | exact omq157 _ _ h20 h3 | omega))]
      (first | exact omq158 _ _ _ | omega)

/-- what stands at a turn of order_rows -/
noncomputable def RJ (C : OChain) (base : Heap) (sh la : Addr) (d : Nat) (td : Tok) (f c q : Nat) (gsl : List Nat) (idx : Nat) (h₀ : Heap) (l : List (Str × Value)) (lc : List (Str × Option Value)) (news : List (Addr × Obj)) : Prop :=
  ∃ D vs k, news = [(D, lstO vs k)] ∧ lc = [] ∧ Sub l [("rows", .ref D), ("items", .ref la), ("shelf", .ref sh), ("depth", .int (d : Int) td)] ∧ RowsAre h₀ vs ((List.replicate (min idx c) (C.nrows f q d)).flatten ++ (gsl.take (idx - c)).map (.grp d)) ∧ base.get? D = none
theorem RowIs.frz {h₀ h : Heap} {L : Addr} {cl : List (Str × Addr)} {l : List (Str × Value)} {lc : List (Str × Option Value)} {news : List (Addr × Obj)} (S : St w h₀ L cl l lc news h) (nt : NoTup news) {v : Value} {r : RowT} (x : RowIs h v r) : RowIs (hideAll h (loose L cl lc news)) v r := by
  cases r with
  | grp d n => obtain ⟨t, t1, t2, t3, m, e1, e2⟩ := x; exact ⟨t, t1, t2, t3, m, e1, S.tup nt e2 rfl rfl⟩
  | lab d n => obtain ⟨t, t1, t2, t3, m, e1, e2⟩ := x; exact ⟨t, t1, t2, t3, m, e1, S.tup nt e2 rfl rfl⟩
theorem RowsAre.frz {h₀ h : Heap} {L : Addr} {cl : List (Str × Addr)} {l : List (Str × Value)} {lc : List (Str × Option Value)} {news : List (Addr × Obj)} (S : St w h₀ L cl l lc news h) (nt : NoTup news) : ∀ {vs : List Value} {rs : List RowT}, RowsAre h vs rs → RowsAre (hideAll h (loose L cl lc news)) vs rs
  | [], [], _ => trivial
  | _ :: _, _ :: _, ⟨a, b⟩ => ⟨a.frz S nt, RowsAre.frz S nt b⟩
  | [], _ :: _, x => x
  | _ :: _, [], x => x

end
namespace orowsC
noncomputable abbrev V := Program × World × OChain × (Int → Option (List Item)) × Nat × Around × Shared × (Value → Shared → Prop) × (Value → Shared → Prop) × Addr × Addr × List Value × Nat × Nat × Nat × List Nat
noncomputable def P (prog : Program) (w : World) (C : OChain) (rows : Int → Option (List Item)) (f : Nat) (A : Around) (s : Shared) (Q : Value → Shared → Prop) (E : Value → Shared → Prop) (sh : Addr) (la : Addr) (arr : List Value) (kk : Nat) (c : Nat) (q : Nat) (gsl : List Nat) : Prop := ∀ (ok : C.OkO) (hrows : ∀ i, i < C.n → rows ((10 + i : Nat) : Int) = some (C.lb i ++ C.parts i)) (d : Nat) (td : Tok) (args : List Value), (args = [.ref sh, .ref la, .int (d : Int) td] ∨ (d = 0 ∧ td = 718 ∧ args = [.ref sh, .ref la])) → (0 < c → q < C.n ∧ C.H q ≤ f ∧ d + C.H q ≤ 20) → (∀ g, g ∈ gsl → 1 ≤ g ∧ g ≤ 4) → c ≤ 3 → gsl.length ≤ 2 → d ≤ 20 → c * (C.cn q + C.labN q) + gsl.length ≤ 10000 →
      Wd w s.heap → Rm A (f + 40) (3 * f + 160) → (d = 0 → ∃ base outer, Below A base outer s.heap) → s.heap.get? la = some (lstO arr kk) → Its w s.heap arr (List.replicate c (.ref ((10 + q : Nat) : Int)) ++ gsl.map fun g => .ref ((g : Nat) : Int)) → ShelfAt prog w s.heap sh rows →
      (∀ h' tk' D vs k, s.heap.StaysIn h' → s.heap.get? D = none → h'.get? D = some (lstO vs k) → RowsAre h' vs ((List.replicate c (C.nrows f q d)).flatten ++ gsl.map (.grp d)) → Q (.ref D) { s with heap := h', toks := tk' }) →
      wpAny (model prog w) A (call (.ref 420) args) Q E s
noncomputable def wc : V := worst (α := V) (default, Cx.one.w, { n := 0, cnt := fun _ => 0, gs := fun _ => [], nx := fun _ => 0, H := fun _ => 0, lab := fun _ => none, cn := fun _ => 0 }, fun _ => none, (0 : Nat), {}, Cx.one.s, fun _ _ => True, fun _ _ => True, (0 : Nat), (0 : Nat), [], (0 : Nat), (0 : Nat), (0 : Nat), []) (fun v : V => v.2.2.2.2.1) fun v => P v.1 v.2.1 v.2.2.1 v.2.2.2.1 v.2.2.2.2.1 v.2.2.2.2.2.1 v.2.2.2.2.2.2.1 v.2.2.2.2.2.2.2.1 v.2.2.2.2.2.2.2.2.1 v.2.2.2.2.2.2.2.2.2.1 v.2.2.2.2.2.2.2.2.2.2.1 v.2.2.2.2.2.2.2.2.2.2.2.1 v.2.2.2.2.2.2.2.2.2.2.2.2.1 v.2.2.2.2.2.2.2.2.2.2.2.2.2.1 v.2.2.2.2.2.2.2.2.2.2.2.2.2.2.1 v.2.2.2.2.2.2.2.2.2.2.2.2.2.2.2
noncomputable def prog : Program := wc.1
noncomputable def w : World := wc.2.1
noncomputable def C : OChain := wc.2.2.1
noncomputable def rows : Int → Option (List Item) := wc.2.2.2.1
noncomputable def f₀c : Nat := wc.2.2.2.2.1
noncomputable def A : Around := wc.2.2.2.2.2.1
noncomputable def s : Shared := wc.2.2.2.2.2.2.1
noncomputable def Q : Value → Shared → Prop := wc.2.2.2.2.2.2.2.1
noncomputable def E : Value → Shared → Prop := wc.2.2.2.2.2.2.2.2.1
noncomputable def sh : Addr := wc.2.2.2.2.2.2.2.2.2.1
noncomputable def la : Addr := wc.2.2.2.2.2.2.2.2.2.2.1
noncomputable def arr : List Value := wc.2.2.2.2.2.2.2.2.2.2.2.1
noncomputable def kk : Nat := wc.2.2.2.2.2.2.2.2.2.2.2.2.1
noncomputable def c : Nat := wc.2.2.2.2.2.2.2.2.2.2.2.2.2.1
noncomputable def q : Nat := wc.2.2.2.2.2.2.2.2.2.2.2.2.2.2.1
noncomputable def gsl : List Nat := wc.2.2.2.2.2.2.2.2.2.2.2.2.2.2.2
theorem at_c (IH : ∀ v : V, v.2.2.2.2.1 < f₀c → P v.1 v.2.1 v.2.2.1 v.2.2.2.1 v.2.2.2.2.1 v.2.2.2.2.2.1 v.2.2.2.2.2.2.1 v.2.2.2.2.2.2.2.1 v.2.2.2.2.2.2.2.2.1 v.2.2.2.2.2.2.2.2.2.1 v.2.2.2.2.2.2.2.2.2.2.1 v.2.2.2.2.2.2.2.2.2.2.2.1 v.2.2.2.2.2.2.2.2.2.2.2.2.1 v.2.2.2.2.2.2.2.2.2.2.2.2.2.1 v.2.2.2.2.2.2.2.2.2.2.2.2.2.2.1 v.2.2.2.2.2.2.2.2.2.2.2.2.2.2.2) : P prog w C rows f₀c A s Q E sh la arr kk c q gsl := by
  unfold P
  intro ok hrows d td args
  have ih : ∀ f, f < f₀c → ∀ (d : Nat) (A : Around) (s : Shared) (Q E : Value → Shared → Prop) (sh la : Addr) (td : Tok) (args : List Value) (arr : List Value) (kk : Nat) (c q : Nat) (gsl : List Nat), (args = [.ref sh, .ref la, .int (d : Int) td] ∨ (d = 0 ∧ td = 718 ∧ args = [.ref sh, .ref la])) → (0 < c → q < C.n ∧ C.H q ≤ f ∧ d + C.H q ≤ 20) → (∀ g, g ∈ gsl → 1 ≤ g ∧ g ≤ 4) → c ≤ 3 → gsl.length ≤ 2 → d ≤ 20 → c * (C.cn q + C.labN q) + gsl.length ≤ 10000 →
      Wd w s.heap → Rm A (f + 40) (3 * f + 160) → (d = 0 → ∃ base outer, Below A base outer s.heap) → s.heap.get? la = some (lstO arr kk) → Its w s.heap arr (List.replicate c (.ref ((10 + q : Nat) : Int)) ++ gsl.map fun g => .ref ((g : Nat) : Int)) → ShelfAt prog w s.heap sh rows →
      (∀ h' tk' D vs k, s.heap.StaysIn h' → s.heap.get? D = none → h'.get? D = some (lstO vs k) → RowsAre h' vs ((List.replicate c (C.nrows f q d)).flatten ++ gsl.map (.grp d)) → Q (.ref D) { s with heap := h', toks := tk' }) →
      wpAny (model prog w) A (call (.ref 420) args) Q E s := fun f hk d A s Q E sh la td args arr kk c q gsl => IH (prog, w, C, rows, f, A, s, Q, E, sh, la, arr, kk, c, q, gsl) hk ok hrows d td args
  clear IH
  intro hargs hq hgs hc3 hg2 hd20 htot W R hB hla hI hs hret
  generalize f₀c = f₀ at *
  have R' : Rm A 8 40 := R.le (by (first | exact omq159 _ | omega)) (by (first | exact omq160 _ | omega))
  have R0 : ∀ env, Rm (A.deeper env) 8 40 := fun env => R.dp (by (first | exact omq161 _ | omega)) (by (first | exact omq162 _ | omega))
  refine' enter0 (binds := [("shelf", .ref sh), ("items", .ref la), ("depth", .int (d : Int) td)]) ?W ?ho ?hcd ?hroom ?hb ?hloc ?_ ?c1 ?c2 ?c3 ?c4
  (case W => assumption)
  (case ho => k_is)
  (case hcd => k_is)
  (case hroom => exact Rm.room (by assumption))
  (case hb =>
    rcases hargs with rfl | ⟨rfl, rfl, rfl⟩
    · exact binds_K W.K rfl (by k_is) rfl rfl rfl
    · exact binds_K W.K rfl (by k_is) rfl rfl rfl)
  (case hloc => exact locs rfl)
  (case c1 => exact rfl)
  (case c2 => exact rfl)
  (case c3 => exact rfl)
  (case c4 => decide)
  intro h₁ tk₁ S
  replace S := S.names (l' := [("depth", .int (d : Int) td), ("items", .ref la), ("shelf", .ref sh)]) ⟨rfl, rfl, rfl, trivial⟩
  iterate 1 (walk_at "st")
  have hlen : arr.length = c + gsl.length := by rw [Its.length hI]; simp
  refine wpAny_mono (Q := fun f s' => f = .next ∧ ∃ h2 tk2, s' = { s with heap := h2, toks := tk2 } ∧ St w s.heap s.heap.objs.size [] [("depth", .int (d : Int) td), ("items", .ref la), ("shelf", .ref sh)] [] [] h2) ?_ (fun v s' hmid => ?_) fun _ _ e => e
  · repeat (walk_at "st")
    by_cases hd0 : d = 0
    · subst hd0
      obtain ⟨base, outer, B⟩ := hB rfl
      refine ite_pos (by simp) ?_
      repeat (walk_at "st")
      rename St _ _ _ _ _ _ _ _ => S
      have lz1 := S.lz
      refine rDict0 S fun kd h' lo k S => ?_
      repeat (walk_at "st")
      rename St _ _ _ _ _ _ _ _ => S
      have pK := S.nw _ (.head _)
      have kW : s.heap.StaysIn (hideAll h' [kd]) := fun b x e => hideAll_get _ (S.base e) (fun q => by rw [List.mem_singleton.mp q, pK.2.2] at e; cases e)
      obtain ⟨oL, es, n, hL, hLd⟩ := S.here
      refine osize C ok rows hrows 21 0 C.n _ _ _ _ base _ kd sh la _ _ arr kk [] c q gsl rfl (Nat.le_refl _) (fun h => (hq h).1) (.inl rfl) hgs hc3 hg2 (S.wd.keeps kW) (R.dp (by (first | exact omq163 _ | omega)) (by (first | exact omq164 _ | omega))) (belowAt B kW rfl rfl (hideAll_get _ hL (fun q => pK.2.1 (List.mem_singleton.mp q).symm)) (fun vs q => by rw [hLd] at q; cases q) (fresh_of_stays B.stays lz1)) pK.1 (MemoO.none ..) lo (kW _ _ hla) (Its.keep kW hI) (hs.keep kW) ?_ ?_
      · intro hle h2 tk2 t u1 u2 m o' kk2 hkd hm hne ht
        have S' := (S.turn (pre := []) (post := []) (by intro v q; cases q) kk2 hkd).tail
        clear S
        repeat (walk_at "st")
        rename St _ _ _ _ _ _ _ _ => S
        refine rItemT ht (by decide) (by decide) rfl rfl ?_
        repeat (walk_at "st")
        refine ite_neg (by simp only [decide_eq_true_eq]; (first | exact omq165 _ _ htot | omega)) ?_
        repeat (walk_at "st")
        rename St _ _ _ _ _ _ _ _ => S
        exact ⟨rfl, _, _, rfl, S⟩
      · intro hle
        rcases hle with x | ⟨x, y⟩
        · (first | exact (omq166 x).elim | omega)
        · have := (hq x).2.2; (first | exact (omq167 _ y this).elim | omega)
    · refine ite_neg (by simp; (first | exact omq168 _ hd0 | omega)) ?_
      repeat (walk_at "st")
      rename St _ _ _ _ _ _ _ _ => S
      exact ⟨rfl, _, _, rfl, S⟩
  obtain ⟨rfl, h2, tk2, rfl, S⟩ := hmid
  repeat (walk_at "st")
  rename St _ _ _ _ _ _ _ _ => S
  obtain ⟨g, hsh, hgs', hrs⟩ := hs.all
  refine forListR (RJ C s.heap sh la d td f₀ c q gsl) S (R0 _).hh hla ?_ ?_ ?_
  · refine ⟨_, [], 0, rfl, rfl, ⟨rfl, rfl, rfl, rfl, trivial⟩, ?_, (S.nw _ (.head _)).2.2⟩
    simp only [Nat.zero_min, List.replicate_zero, List.flatten_nil, Nat.zero_sub, List.take_zero, List.map_nil, List.nil_append]
    trivial
  · intro idx v h₀' l lc news h4 tk4 I oI hof hv k4 hJ S
    obtain ⟨D, vs, k, rfl, rfl, hsub, hra, hfr⟩ := hJ
    replace S := S.names hsub
    obtain ⟨it, hit, hiv⟩ := Its.get (hI.keep k4) hv
    have hs4 := hs.keep k4
    have hsh4 := hsh.keep k4
    have hsh4' := hsh4
    obtain ⟨dsh, tb, tr, u1, u2, k1, f, s1, s2, s3, lo3, s4⟩ := hsh4'
    have ntI : ∀ vs k, NoTup [(I, oI), (D, lstO vs k)] := by
      intro vs k p hp
      obtain ⟨vI, eI⟩ := hof
      rcases List.mem_cons.mp hp with rfl | hp
      · exact .inr fun vs n q => by rw [show oI.data = _ from eI] at q; cases q
      · rw [List.mem_singleton.mp hp]; exact .inl (by show Value.type "list" ≠ Value.type "tuple"; decide)
    have hidx : idx < c + gsl.length := by
      rw [← hlen]; exact (List.getElem?_eq_some_iff.mp hv).1
    by_cases hB : idx < c
    · have e1 : it = .ref ((10 + q : Nat) : Int) := by
        rw [List.getElem?_append_left (by rw [List.length_replicate]; (first | exact omq169 _ _ hB | omega)), List.getElem?_replicate, if_pos (by (first | exact omq169 _ _ hB | omega))] at hit
        exact (Option.some.inj hit).symm
      subst e1
      obtain ⟨hqn, hqf, hqd⟩ := hq (by (first | exact omq170 _ _ _ _ hc3 hlen hB | omega))
      have hHq := ok.H1 q
      obtain ⟨f', rfl⟩ : ∃ f', f₀ = f' + 1 := ⟨f₀ - 1, by (first | exact omq171 _ _ hqf hHq | omega)⟩
      obtain ⟨r, rfl, hr⟩ := hiv
      obtain ⟨ro, arr2, kr, hgo, hL, hI2⟩ := hrs _ _ (hrows q hqn)
      have hL4 := k4 _ _ hL
      have hI4 := hI2.keep k4
      have hcn := ok.cnt_ q hqn (by (first | exact omq172 _ _ hd20 hqd | omega))
      have hctot : C.cn q + C.labN q ≤ 10000 := by
        have : 1 * (C.cn q + C.labN q) ≤ c * (C.cn q + C.labN q) := Nat.mul_le_mul_right _ (by (first | exact omq173 _ _ _ _ hc3 hlen hB | omega))
        (first | exact omq174 _ _ _ _ _ _ hg2 htot hcn this | omega)
      have hinner : 0 < C.cnt q → C.nx q < C.n ∧ C.H (C.nx q) ≤ f' ∧ d + 1 + C.H (C.nx q) ≤ 20 := fun z => by
        have h3 : C.H q = C.H (C.nx q) + 1 := by rcases ok.HS q hqn z with y | y <;> (first | exact omq70 _ _ y | exact omq175 _ _ _ hd20 hqd y | omega)
        exact ⟨ok.nx_lt q hqn, by (first | exact omq156 _ _ _ hqf h3 | omega), by (first | exact omq176 _ _ _ hqd h3 | omega)⟩
      have hvl := hra.length
      have hnr : C.nrows (f' + 1) q d = (match C.lab q with | some b => [RowT.lab d b] | none => []) ++ ((List.replicate (C.cnt q) (C.nrows f' (C.nx q) (d + 1))).flatten ++ (C.gs q).map (.grp (d + 1))) := rfl
      have hinn : ((List.replicate (C.cnt q) (C.nrows f' (C.nx q) (d + 1))).flatten ++ (C.gs q).map (RowT.grp (d + 1))).length = C.cn q := by
        have h1 := C.nrows_len ok (f' + 1) q d hqn hqf (by (first | exact omq172 _ _ hd20 hqd | omega))
        have e1 : (match C.lab q with | some b => [RowT.lab d b] | none => []).length = C.labN q := by
          unfold OChain.labN; cases C.lab q <;> rfl
        rw [hnr, List.length_append, e1] at h1
        (first | exact omq177 _ _ _ _ _ hcn h1 | omega)
      have e5 : min (idx + 1) c = idx + 1 := by (first | exact omq178 _ _ _ _ hlen hB | omega)
      have e6 : idx + 1 - c = 0 := by (first | exact omq179 _ _ _ _ hlen hB e5 | omega)
      have hmin : min idx c = idx := by (first | exact omq180 _ _ _ _ hlen hB e5 | omega)
      have hz : idx - c = 0 := by (first | exact omq181 _ _ _ _ hlen hB e5 hmin | omega)
      rw [hmin, hz] at hra hvl
      simp only [List.take_zero, List.map_nil, List.append_nil] at hra hvl
      have hvs : vs.length + (C.cn q + C.labN q) ≤ 10000 := by
        rw [hvl, lm_len_rep_flat, C.nrows_len ok (f' + 1) q d hqn hqf (by (first | exact omq172 _ _ hd20 hqd | omega))]
        have : (idx + 1) * (C.cn q + C.labN q) ≤ c * (C.cn q + C.labN q) := Nat.mul_le_mul_right _ (by (first | exact omq182 _ _ _ _ hlen hB e5 hmin | omega))
        rw [Nat.add_mul] at this
        (first | exact omq183 _ _ _ _ _ _ _ _ hg2 htot hcn hinn this | omega)
      repeat (walk_at "st")
      rename St _ _ _ _ _ _ _ _ => S
      refine fetch_ref S.wdh ((R0 _).le (by decide) (by decide)) (hsh4.keep S.out) (hr.keep S.out) hgo (.inl ⟨_, _, S.base hL4⟩) fun h' tk' k => ?_
      replace S := S.keeps k
      repeat (walk_at "st")
      rename St _ _ _ _ _ _ _ _ => S
      refine is_group S.wdh ((R0 _).le (by decide) (by decide)) (hs4.keep S.out) (.inr (.inl ⟨_, _, hrows q hqn, ⟨r, rfl, hr.keep S.out⟩, rfl⟩)) fun h' tk' k => ?_
      replace S := S.keeps k
      repeat (walk_at "st")
      rename St _ _ _ _ _ _ _ _ => S
      refine IsiPair.list_list (S.base hL4) rfl ?_
      repeat (walk_at "st")
      rename St _ _ _ _ _ _ _ _ => S
      obtain ⟨it2, its2, hfirst, hlabq⟩ := C.first ok rows hrows q hqn
      have hI5 := hI4
      rw [hfirst] at hI5
      refine is_labelled (b := (C.lab q).isSome) S.wdh ((R0 _).le (by decide) (by decide)) (hs4.keep S.out) (S.base hL4) (Its.keep S.out hI5) (by
        rcases hlabq with ⟨x, y, z⟩ | ⟨n, y, z, u⟩
        · exact .inl ⟨x, y, z⟩
        · exact .inr ⟨n, y, z, u⟩) fun h' tk' k => ?_
      replace S := S.keeps k
      clear hfirst hlabq hI5
      repeat (walk_at "st")
      cases hlab : C.lab q with
      | some b =>
        rename St _ _ _ _ _ _ _ _ => S
        refine ite_pos rfl ?_
        have hlb : C.lb q = [.lab b] := by unfold OChain.lb; rw [hlab]
        have hlN : C.labN q = 1 := by unfold OChain.labN; rw [hlab]; rfl
        rw [hlb] at hI4
        obtain ⟨v0, vs2, rfl⟩ : ∃ v0 vs2, arr2 = v0 :: vs2 := by
          cases arr2 with
          | nil => exact hI4.elim
          | cons a b => exact ⟨a, b, rfl⟩
        obtain ⟨⟨a0, rfl, hst0⟩, hI6⟩ := hI4
        have hst1 := hst0
        obtain ⟨d0, t01, t02, t03, k0, sa1, sa2⟩ := hst1
        repeat (walk_at "st")
        rename St _ _ _ _ _ _ _ _ => S
        refine rMApp (S.new (.tail _ (.head _))) ?_
        repeat (walk_at "st")
        rename St _ _ _ _ _ _ _ _ => S
        refine rItemL (S.base hL4) (by decide) (by decide) rfl ?_
        repeat (walk_at "st")
        rename St _ _ _ _ _ _ _ _ => S
        refine fetch_self S.wdh ((R0 _).le (by decide) (by decide)) (.inr ⟨_, hst0.keep S.out⟩) fun h' tk' k => ?_
        replace S := S.keeps k
        repeat (walk_at "st")
        rename St _ _ _ _ _ _ _ _ => S
        obtain ⟨S5, kz5, ht5⟩ := S.still (fun v q => nomatch q)
        clear S
        refine rApp (pre := [(I, oI)]) (post := []) S5 (by rw [sizeLine_eq]; (first | exact omq184 _ _ _ _ _ _ _ hcn hctot hinn hvl hvs hlN | omega)) fun h' k' S => ?_
        clear S5
        repeat (walk_at "st")
        rename St _ _ _ _ _ _ _ _ => S
        refine rMExt (S.new (.tail _ (.head _))) ?_
        repeat (walk_at "st")
        rename St _ _ _ _ _ _ _ _ => S
        have hlen2 : vs2.length ≤ 5 := by
          rw [Its.length hI6]
          have := ok.small q hqn
          simp [Chain.parts]; (first | exact omq185 _ _ this | omega)
        refine sliceL S (S.base (kz5 _ _ hL4)) (.int 1 _) .none (vs' := vs2) (slice_from (Value.ref a0 :: vs2) 1 (by simp)) (by rw [sizeLine_eq, List.length_cons]; (first | exact omq186 _ hlen2 | omega)) fun la2 h' k1 hn1 S => ?_
        obtain ⟨S6, kz6, hla2⟩ := S.still (fun v q => nomatch q)
        clear S
        repeat (walk_at "st")
        rename St _ _ _ _ _ _ _ _ => S
        rw [show (d : Int) + 1 = ((d + 1 : Nat) : Int) from rfl]
        refine ih f' (by (first | exact omq187 _ | omega)) (d + 1) _ _ _ _ sh la2 _ _ vs2 0 (C.cnt q) (C.nx q) (C.gs q) (.inl rfl) hinner (fun g hg => ok.gs_in q g hqn hg) (ok.small q hqn).1 (ok.small q hqn).2 (by (first | exact omq188 _ _ hd20 hqd hHq | omega)) (by (first | exact omq189 _ _ _ _ _ hcn hctot hinn hlN | omega)) S.wdh (R.dp (by (first | exact omq190 _ | omega)) (by (first | exact omq191 _ | omega))) (fun z => by (first | exact (omq192 _ hd20 z).elim | omega)) (S.base hla2) (Its.keep (stays_trans kz5 (stays_trans kz6 S.out)) hI6) (hs4.keep (stays_trans kz5 (stays_trans kz6 S.out))) fun h' tk' D2 vs3 k3 kk hn2 hD2 hr2 => ?_
        replace S := S.keeps kk
        have hr3 := RowsAre.frz S (ntI _ _) hr2
        obtain ⟨S7, kz7⟩ := S.freeze
        clear S
        repeat (walk_at "st")
        rename St _ _ _ _ _ _ _ _ => S
        refine rExt (pre := [(I, oI)]) (post := []) S hD2 (by rw [hr2.length, hinn, sizeLine_eq, List.length_append, List.length_singleton]; (first | exact omq193 _ _ _ _ _ _ _ hcn hinn hvl hvs hlN | omega)) fun h' k' S kk => ?_
        repeat (walk_at "st")
        rename St _ _ _ _ _ _ _ _ => S
        refine ⟨_, _, _, _, _, _, rfl, stays_trans kz5 (stays_trans kz6 kz7), ⟨D, _, k', rfl, rfl, ⟨rfl, rfl, rfl, rfl, trivial⟩, ?_, hfr⟩, S⟩
        rw [e5, e6, List.take_zero, List.map_nil, List.append_nil, List.replicate_succ', List.flatten_append, List.flatten_singleton, List.append_assoc]
        refine (hra.keep (stays_trans kz5 (stays_trans kz6 kz7))).append ?_
        rw [hnr, hlab]
        exact RowsAre.append (vs := [_]) (rs := [.lab d b]) ⟨⟨_, _, _, _, _, rfl, kz7 _ _ (kz6 _ _ ht5)⟩, trivial⟩ hr3
      | none =>
        rename St _ _ _ _ _ _ _ _ => S
        refine ite_neg (by simp) ?_
        have hlb : C.lb q = [] := by unfold OChain.lb; rw [hlab]
        have hlN : C.labN q = 0 := by unfold OChain.labN; rw [hlab]; rfl
        rw [hlb] at hI4
        repeat (walk_at "st")
        rename St _ _ _ _ _ _ _ _ => S
        refine IsiPair.list_list (S.base hL4) rfl ?_
        repeat (walk_at "st")
        rename St _ _ _ _ _ _ _ _ => S
        refine rMExt (S.new (.tail _ (.head _))) ?_
        repeat (walk_at "st")
        rename St _ _ _ _ _ _ _ _ => S
        rw [show (d : Int) + 1 = ((d + 1 : Nat) : Int) from rfl]
        refine ih f' (by (first | exact omq187 _ | omega)) (d + 1) _ _ _ _ sh ro _ _ arr2 kr (C.cnt q) (C.nx q) (C.gs q) (.inl rfl) hinner (fun g hg => ok.gs_in q g hqn hg) (ok.small q hqn).1 (ok.small q hqn).2 (by (first | exact omq188 _ _ hd20 hqd hHq | omega)) (by (first | exact omq194 _ _ _ _ _ hcn hctot hinn hlN | omega)) S.wdh (R.dp (by (first | exact omq190 _ | omega)) (by (first | exact omq191 _ | omega))) (fun z => by (first | exact (omq192 _ hd20 z).elim | omega)) (S.base hL4) (Its.keep S.out hI4) (hs4.keep S.out) fun h' tk' D2 vs3 k3 kk hn2 hD2 hr2 => ?_
        replace S := S.keeps kk
        have hr3 := RowsAre.frz S (ntI _ _) hr2
        obtain ⟨S5, kz5⟩ := S.freeze
        clear S
        repeat (walk_at "st")
        rename St _ _ _ _ _ _ _ _ => S
        refine rExt (pre := [(I, oI)]) (post := []) S hD2 (by rw [hr2.length, hinn, sizeLine_eq]; (first | exact omq195 _ _ _ _ _ _ _ hcn hinn hvl hvs hlN | omega)) fun h' k' S kk => ?_
        repeat (walk_at "st")
        rename St _ _ _ _ _ _ _ _ => S
        refine ⟨_, _, _, _, _, _, rfl, kz5, ⟨D, _, k', rfl, rfl, ⟨rfl, rfl, rfl, rfl, trivial⟩, ?_, hfr⟩, S⟩
        rw [e5, e6, List.take_zero, List.map_nil, List.append_nil, List.replicate_succ', List.flatten_append, List.flatten_singleton]
        refine (hra.keep kz5).append ?_
        rw [hnr, hlab]
        exact hr3
    · obtain ⟨gg, hgg, rfl⟩ : ∃ gg, gsl[idx - c]? = some gg ∧ it = .ref ((gg : Nat) : Int) := by
        rw [List.getElem?_append_right (by rw [List.length_replicate]; (first | exact omq196 _ _ _ _ hlen hB | omega)), List.length_replicate, List.getElem?_map] at hit
        obtain ⟨x, h1, h2⟩ := Option.map_eq_some_iff.mp hit
        exact ⟨x, h1, h2.symm⟩
      obtain ⟨g1, g4⟩ := hgs gg (List.mem_of_getElem? hgg)
      obtain ⟨r, rfl, hr⟩ := hiv
      have hr' := hr
      obtain ⟨dr, t3, t4, t5, t6, k2, r1, r2⟩ := hr'
      obtain ⟨og, hog, nmg, tt, kg, hG, hN, log⟩ := hgs' (gg : Int) (by (first | exact omq40 _ g1 g4 | omega)) (by (first | exact omq41 _ g1 g4 | omega))
      repeat (walk_at "st")
      rename St _ _ _ _ _ _ _ _ => S
      refine fetch_ref S.wdh ((R0 _).le (by decide) (by decide)) (hsh4.keep S.out) (hr.keep S.out) hog (.inr ⟨_, _, S.base (k4 _ _ hG)⟩) fun h' tk' k => ?_
      replace S := S.keeps k
      repeat (walk_at "st")
      rename St _ _ _ _ _ _ _ _ => S
      refine is_group S.wdh ((R0 _).le (by decide) (by decide)) (hs4.keep S.out) (.inl ⟨(gg : Int), by (first | exact omq40 _ g1 g4 | omega), by (first | exact omq41 _ g1 g4 | omega), ⟨r, rfl, hr.keep S.out⟩, rfl⟩) fun h' tk' k => ?_
      replace S := S.keeps k
      repeat (walk_at "st")
      rename St _ _ _ _ _ _ _ _ => S
      refine rMApp (S.new (.tail _ (.head _))) ?_
      repeat (walk_at "st")
      rename St _ _ _ _ _ _ _ _ => S
      obtain ⟨S5, kz5, ht5⟩ := S.still (fun v q => nomatch q)
      clear S
      have hvl := hra.length
      refine rApp (pre := [(I, oI)]) (post := []) S5 (by
        rw [hvl, List.length_append, lm_len_rep_flat, List.length_map, List.length_take, sizeLine_eq]
        have hmin : min idx c = c := by (first | exact omq197 _ _ _ _ hlen hB | omega)
        rw [hmin]
        rcases Nat.eq_zero_or_pos c with z | z
        · rw [z]; (first | exact omq198 _ _ _ _ _ hg2 hlen hidx hB hmin z | omega)
        · obtain ⟨y1, y2, y3⟩ := hq z
          rw [C.nrows_len ok f₀ q d y1 y2 (by (first | exact omq172 _ _ hd20 y3 | omega))]; (first | exact omq199 _ _ _ _ _ htot hlen hmin | omega)) fun h' k' S => ?_
      repeat (walk_at "st")
      rename St _ _ _ _ _ _ _ _ => S
      refine ⟨_, _, _, _, _, _, rfl, kz5, ⟨D, _, k', rfl, rfl, ⟨rfl, rfl, rfl, rfl, trivial⟩, ?_, hfr⟩, S⟩
      have e1 : min (idx + 1) c = min idx c := by (first | exact omq200 _ _ _ _ hlen hB | omega)
      have e2 : idx + 1 - c = idx - c + 1 := by (first | exact omq201 _ _ _ _ hlen hB | omega)
      rw [e1, e2, List.take_add_one, hgg, List.map_append, ← List.append_assoc]
      exact (hra.keep kz5).append ⟨⟨_, _, _, _, _, rfl, ht5⟩, trivial⟩
  · intro h₀' l lc news h4 tk4 k4 hJ S
    obtain ⟨D, vs, k, rfl, rfl, hsub, hra, hfr⟩ := hJ
    replace S := S.names hsub
    repeat (walk_at "st")
    rename St _ _ _ _ _ _ _ _ => S
    rw [show min arr.length c = c by (first | exact omq202 _ _ _ hc3 hg2 hlen | omega), show arr.length - c = gsl.length by (first | exact omq203 _ _ _ hc3 hg2 hlen | omega), List.take_length] at hra
    exact hret _ _ _ _ _ (stays_trans k4 S.out) hfr (S.new (.head _)) (hra.keep S.out)
end orowsC
section
variable {prog : Program} {w : World} {A : Around} {Q E : Value → Shared → Prop} {s : Shared} 
theorem orows (C : OChain) (ok : C.OkO) (rows : Int → Option (List Item)) (hrows : ∀ i, i < C.n → rows ((10 + i : Nat) : Int) = some (C.lb i ++ C.parts i)) : ∀ (f d : Nat) (A : Around) (s : Shared) (Q E : Value → Shared → Prop) (sh la : Addr) (td : Tok) (args : List Value) (arr : List Value) (kk : Nat) (c q : Nat) (gsl : List Nat),
      (args = [.ref sh, .ref la, .int (d : Int) td] ∨ (d = 0 ∧ td = 718 ∧ args = [.ref sh, .ref la])) → (0 < c → q < C.n ∧ C.H q ≤ f ∧ d + C.H q ≤ 20) → (∀ g, g ∈ gsl → 1 ≤ g ∧ g ≤ 4) → c ≤ 3 → gsl.length ≤ 2 → d ≤ 20 → c * (C.cn q + C.labN q) + gsl.length ≤ 10000 →
      Wd w s.heap → Rm A (f + 40) (3 * f + 160) → (d = 0 → ∃ base outer, Below A base outer s.heap) → s.heap.get? la = some (lstO arr kk) → Its w s.heap arr (List.replicate c (.ref ((10 + q : Nat) : Int)) ++ gsl.map fun g => .ref ((g : Nat) : Int)) → ShelfAt prog w s.heap sh rows →
      (∀ h' tk' D vs k, s.heap.StaysIn h' → s.heap.get? D = none → h'.get? D = some (lstO vs k) → RowsAre h' vs ((List.replicate c (C.nrows f q d)).flatten ++ gsl.map (.grp d)) → Q (.ref D) { s with heap := h', toks := tk' }) →
      wpAny (model prog w) A (call (.ref 420) args) Q E s := fun f d A s Q E sh la td args arr kk c q gsl => worst_all (α := orowsC.V) (default, Cx.one.w, { n := 0, cnt := fun _ => 0, gs := fun _ => [], nx := fun _ => 0, H := fun _ => 0, lab := fun _ => none, cn := fun _ => 0 }, fun _ => none, (0 : Nat), {}, Cx.one.s, fun _ _ => True, fun _ _ => True, (0 : Nat), (0 : Nat), [], (0 : Nat), (0 : Nat), (0 : Nat), []) (fun v : orowsC.V => v.2.2.2.2.1) (fun v => orowsC.P v.1 v.2.1 v.2.2.1 v.2.2.2.1 v.2.2.2.2.1 v.2.2.2.2.2.1 v.2.2.2.2.2.2.1 v.2.2.2.2.2.2.2.1 v.2.2.2.2.2.2.2.2.1 v.2.2.2.2.2.2.2.2.2.1 v.2.2.2.2.2.2.2.2.2.2.1 v.2.2.2.2.2.2.2.2.2.2.2.1 v.2.2.2.2.2.2.2.2.2.2.2.2.1 v.2.2.2.2.2.2.2.2.2.2.2.2.2.1 v.2.2.2.2.2.2.2.2.2.2.2.2.2.2.1 v.2.2.2.2.2.2.2.2.2.2.2.2.2.2.2) orowsC.at_c (prog, w, C, rows, f, A, s, Q, E, sh, la, arr, kk, c, q, gsl) ok hrows d td args
end

/-! QF8 -/
section
variable {prog : Program} {w : World} {A : Around} {Q E : Value → Shared → Prop} {s : Shared} 

theorem orows_raise (C : OChain) (ok : C.OkO) (rows : Int → Option (List Item)) (hrows : ∀ i, i < C.n → rows ((10 + i : Nat) : Int) = some (C.lb i ++ C.parts i)) (hn : 0 < C.n)
    {base : Heap} {outer : List Env} {sh la : Addr} {arr : List Value} {kk : Nat} (W : Wd w s.heap) (R : Rm A 60 200) (B : Below A base outer s.heap) (hla : s.heap.get? la = some (lstO arr kk)) (hI : Its w s.heap arr [.ref ((10 + 0 : Nat) : Int)]) (hs : ShelfAt prog w s.heap sh rows)
    (hc : 20 < C.H 0 ∨ (C.H 0 ≤ 20 ∧ 10000 < C.cn 0 + C.labN 0))
    (herr : ∀ e h' tk', Fly base outer s.heap e h' → E (.ref e) { s with heap := h', toks := tk' }) :
    wpAny (model prog w) A (call (.ref 420) [.ref sh, .ref la]) Q E s := by
  refine' enter0 (binds := [("shelf", .ref sh), ("items", .ref la), ("depth", .int ((0 : Nat) : Int) 718)]) ?W ?ho ?hcd ?hroom ?hb ?hloc ?_ ?c1 ?c2 ?c3 ?c4
  (case W => assumption)
  (case ho => k_is)
  (case hcd => k_is)
  (case hroom => exact Rm.room (by assumption))
  (case hb => exact binds_K W.K rfl (by k_is) rfl rfl rfl)
  (case hloc => exact locs rfl)
  (case c1 => exact rfl)
  (case c2 => exact rfl)
  (case c3 => exact rfl)
  (case c4 => decide)
  intro h₁ tk₁ S
  replace S := S.names (l' := [("depth", .int ((0 : Nat) : Int) 718), ("items", .ref la), ("shelf", .ref sh)]) ⟨rfl, rfl, rfl, trivial⟩
  repeat (walk_at "st")
  refine ite_pos (by simp) ?_
  repeat (walk_at "st")
  rename St _ _ _ _ _ _ _ _ => S
  have lz1 := S.lz
  refine rDict0 S fun kd h' lo k S => ?_
  repeat (walk_at "st")
  rename St _ _ _ _ _ _ _ _ => S
  have pK := S.nw _ (.head _)
  have kW : s.heap.StaysIn (hideAll h' [kd]) := fun b x e => hideAll_get _ (S.base e) (fun q => by rw [List.mem_singleton.mp q, pK.2.2] at e; cases e)
  obtain ⟨oL, es, n, hL, hLd⟩ := S.here
  refine osize C ok rows hrows 21 0 C.n _ _ _ _ base _ kd sh la _ _ arr kk [] 1 0 [] rfl (Nat.le_refl _) (fun h => hn) (.inl rfl) (fun g hg => nomatch hg) (by decide) (by decide) (S.wd.keeps kW) (R.dp (by decide) (by decide)) (belowAt B kW rfl rfl (hideAll_get _ hL (fun q => pK.2.1 (List.mem_singleton.mp q).symm)) (fun vs q => by rw [hLd] at q; cases q) (fresh_of_stays B.stays lz1)) pK.1 (MemoO.none ..) lo (kW _ _ hla) (Its.keep kW hI) (hs.keep kW) ?_ ?_
  · intro hle h2 tk2 t u1 u2 m o' kk2 hkd hm hne ht
    have hbig : 10000 < C.cn 0 + C.labN 0 := by
      rcases hc with x | x
      · have := hle.2 (by decide); (first | exact omq204 _ _ _ x this | omega)
      · exact x.2
    have S' := (S.turn (pre := []) (post := []) (by intro v q; cases q) kk2 hkd).tail
    clear S
    repeat (walk_at "st")
    rename St _ _ _ _ _ _ _ _ => S
    refine rItemT ht (by decide) (by decide) rfl rfl ?_
    repeat (walk_at "st")
    refine ite_pos (by rw [List.length_nil]; simp only [decide_eq_true_eq]; (first | exact omq205 _ _ hbig | omega)) ?_
    repeat (walk_at "st")
    rename St _ _ _ _ _ _ _ _ => S
    exact raiseHere S B stays_refl (R.le (by decide) (by decide)) ⟨rfl, rfl, rfl, rfl⟩ rfl rfl fun e h' tk' fly => herr e h' tk' fly
  · intro hle e h2 tk2 fly
    exact leaveOn B kW fly rfl fun h3 fl => herr e h3 _ fl
end

/-! QL1 -/
section
variable {prog : Program} {w : World} {A : Around} {Q E : Value → Shared → Prop} {s : Shared} 

/-- a row of the law's plan -/
structure PRow where
  c : Nat
  gs : List Nat
  k : Nat
noncomputable def PRowIs (h : Heap) (v : Value) (r : PRow) : Prop :=
  ∃ t ga gv tc tk kk m, v = .ref t ∧ h.get? t = some (tupO [.int (r.c : Int) tc, .ref ga, .int (r.k : Int) tk] m) ∧ h.get? ga = some (lstO gv kk) ∧ IntsAre gv (r.gs.map fun g => ((g : Nat) : Int))
noncomputable def PlanIs (h : Heap) : List Value → List PRow → Prop
  | [], [] => True
  | v :: vs, r :: rs => PRowIs h v r ∧ PlanIs h vs rs
  | _, _ => False
theorem PRowIs.keep {h h' : Heap} {v : Value} {r : PRow} (x : PRowIs h v r) (k : h.StaysIn h') : PRowIs h' v r :=
  (by obtain ⟨t, ga, gv, tc, tk, kk, m, e1, e2, e3, e4⟩ := x; exact ⟨t, ga, gv, tc, tk, kk, m, e1, k _ _ e2, k _ _ e3, e4⟩)
theorem PlanIs.keep {h h' : Heap} (k : h.StaysIn h') : ∀ {vs : List Value} {rs : List PRow}, PlanIs h vs rs → PlanIs h' vs rs
  | [], [], _ => trivial
  | _ :: _, _ :: _, ⟨a, b⟩ => ⟨a.keep k, PlanIs.keep k b⟩
  | [], _ :: _, x => x
  | _ :: _, [], x => x
theorem PlanIs.length {h : Heap} : ∀ {vs : List Value} {rs : List PRow}, PlanIs h vs rs → vs.length = rs.length
  | [], [], _ => rfl
  | _ :: _, _ :: _, ⟨_, b⟩ => by rw [List.length_cons, List.length_cons, PlanIs.length b]
  | [], _ :: _, x => x.elim
  | _ :: _, [], x => x.elim
theorem PlanIs.get {h : Heap} : ∀ {vs : List Value} {rs : List PRow}, PlanIs h vs rs → ∀ {i : Nat} {v : Value}, vs[i]? = some v → ∃ r, rs[i]? = some r ∧ PRowIs h v r
  | [], [], _, _, _, e => by simp at e
  | v :: vs, t :: is, ⟨a, b⟩, i, u, e => by
    cases i with
    | zero => rw [List.getElem?_cons_zero] at e; cases e; exact ⟨t, rfl, a⟩
    | succ i => rw [List.getElem?_cons_succ] at e ⊢; exact PlanIs.get b e
  | [], _ :: _, x, _, _, _ => x.elim
  | _ :: _, [], x, _, _, _ => x.elim
theorem PlanIs.at {h : Heap} {vs : List Value} {rs : List PRow} (x : PlanIs h vs rs) {i : Nat} {r : PRow} (e : rs[i]? = some r) : ∃ v, vs[i]? = some v ∧ PRowIs h v r := by
  have hl := x.length
  have hi := (List.getElem?_eq_some_iff.mp e).1
  have e2 : vs[i]? = some (vs[i]'(by (first | exact omq206 _ _ _ hl hi | omega))) := List.getElem?_eq_getElem (by (first | exact omq206 _ _ _ hl hi | omega))
  obtain ⟨r', e3, y⟩ := x.get e2
  rw [e] at e3; cases e3
  exact ⟨_, e2, y⟩
theorem PlanIs.append {h : Heap} : ∀ {vs us : List Value} {rs ts : List PRow}, PlanIs h vs rs → PlanIs h us ts → PlanIs h (vs ++ us) (rs ++ ts)
  | [], _, [], _, _, y => y
  | _ :: _, _, _ :: _, _, ⟨a, b⟩, y => ⟨a, PlanIs.append b y⟩
  | [], _, _ :: _, _, x, _ => x.elim
  | _ :: _, _, [], _, x, _ => x.elim
theorem PlanIs.reverse {h : Heap} : ∀ {vs : List Value} {rs : List PRow}, PlanIs h vs rs → PlanIs h vs.reverse rs.reverse
  | [], [], _ => trivial
  | _ :: _, _ :: _, ⟨a, b⟩ => by rw [List.reverse_cons, List.reverse_cons]; exact (PlanIs.reverse b).append ⟨a, trivial⟩
  | [], _ :: _, x => x.elim
  | _ :: _, [], x => x.elim

noncomputable def wordOf (r : PRow) : Str := if r.k = 2 ∧ r.c + r.gs.length = 1 then "Not" else if r.k % 2 = 0 then "And" else "Or"

end
namespace law_wordC
noncomputable abbrev V := Program × World × Around × (Value → Shared → Prop) × (Value → Shared → Prop) × Shared
noncomputable def P (prog : Program) (w : World) (A : Around) (Q : Value → Shared → Prop) (E : Value → Shared → Prop) (s : Shared) : Prop := ∀ {p : Addr} {vs : List Value} {kp : Nat} {rs : List PRow} {i : Nat} {r : PRow} {ti : Tok} (W : Wd w s.heap) (R : Rm A 2 10) (hp : s.heap.get? p = some (lstO vs kp)) (hpl : PlanIs s.heap vs rs) (hi : rs[i]? = some r) (hk : r.k ≤ 2) (hi2 : i < 1000) (hg : r.gs.length < 1000) (hret : ∀ h' tk' t, s.heap.StaysIn h' → Q (.str (wordOf r) t) { s with heap := h', toks := tk' }), wpAny (model prog w) A (call (.ref 449) [.ref p, .int (i : Int) ti]) Q E s
noncomputable def wc : V := worst (α := V) (default, Cx.one.w, {}, fun _ _ => True, fun _ _ => True, Cx.one.s) (fun _ : V => (0 : Nat)) fun v => P v.1 v.2.1 v.2.2.1 v.2.2.2.1 v.2.2.2.2.1 v.2.2.2.2.2
noncomputable def prog : Program := wc.1
noncomputable def w : World := wc.2.1
noncomputable def A : Around := wc.2.2.1
noncomputable def Q : Value → Shared → Prop := wc.2.2.2.1
noncomputable def E : Value → Shared → Prop := wc.2.2.2.2.1
noncomputable def s : Shared := wc.2.2.2.2.2
theorem at_c {p : Addr} {vs : List Value} {kp : Nat} {rs : List PRow} {i : Nat} {r : PRow} {ti : Tok} (W : Wd w s.heap) (R : Rm A 2 10) (hp : s.heap.get? p = some (lstO vs kp)) (hpl : PlanIs s.heap vs rs) (hi : rs[i]? = some r) (hk : r.k ≤ 2) (hi2 : i < 1000) (hg : r.gs.length < 1000) (hret : ∀ h' tk' t, s.heap.StaysIn h' → Q (.str (wordOf r) t) { s with heap := h', toks := tk' }) : wpAny (model prog w) A (call (.ref 449) [.ref p, .int (i : Int) ti]) Q E s := by
  obtain ⟨v, hv, t, ga, gv, tc, tk, kk, m, rfl, h1, h2, h3⟩ := hpl.at hi
  obtain ⟨c, gs, kd⟩ := r
  dsimp only at *
  have hgl : gv.length = gs.length := by rw [h3.length, List.length_map]
  (refine' enter0 ?W ?ho ?hcd ?hroom ?hb ?hloc ?_ ?c1 ?c2 ?c3 ?c4; (case W => assumption); (case ho => k_is); (case hcd => k_is); (case hroom => exact Rm.room (by assumption)); (case hb => first | exact BindsTo.of_eq rfl | exact binds_K (Wd.K (by assumption)) rfl (by k_is) rfl rfl rfl); (case hloc => exact locs rfl); (case c1 => exact rfl); (case c2 => exact rfl); (case c3 => exact rfl); (case c4 => decide); intro _ _ _; (try dsimp only))
  rename St _ _ _ _ _ _ _ _ => S
  replace S := S.names (l' := [("at", .int (i : Int) ti), ("plan", .ref p)]) ⟨rfl, rfl, trivial⟩
  repeat (walk_at "st")
  rename St _ _ _ _ _ _ _ _ => S
  refine rItemL (S.base hp) (by (first | exact omq207 _ hi2 | omega)) (by (first | exact omq208 _ hi2 | omega)) (by simpa using hv) ?_
  repeat (walk_at "st")
  rename St _ _ _ _ _ _ _ _ => S
  refine rUnp S (show A.handled = none from R.hh) (S.base h1) rfl rfl ?_
  intro h5 k5 S
  have last : ∀ {K : Value → Shared → Prop} {E' : Value → Shared → Prop} {s7 : Shared} {A' : Around} {value slice : Expr} {a : Addr} {t1 t2 : Tok} {u : Tok}, (hw : ¬ (kd = 2 ∧ c + gs.length = 1)) → s7.heap.get? a = some (tupO [.str "And" t1, .str "Or" t2] 0) → (∀ t, K (.str (wordOf ⟨c, gs, kd⟩) t) s7) →
      subscripted slice false (.ref a) (.int ((kd : Int).fmod 2) u) = operate [.ref a, .int ((kd : Int).fmod 2) u] (getItem (.ref a) (.int ((kd : Int).fmod 2) u)) → wpAny (model prog w) A' (subscriptTail value slice (.ref a) (.int ((kd : Int).fmod 2) u)) K E' s7 := by
    intro K E' s7 A' value slice a t1 t2 u hw ha hK hsub
    replace hK : ∀ t, K (.str (if kd % 2 = 0 then "And" else "Or") t) s7 := by
      intro t
      have := hK t
      unfold wordOf at this
      rwa [if_neg hw] at this
    rcases (by (first | exact omq209 _ hk | omega) : kd = 0 ∨ kd = 1 ∨ kd = 2) with rfl | rfl | rfl
    · exact rItemT ha (by decide) (by decide) rfl rfl (hK t1) hsub
    · exact rItemT ha (by decide) (by decide) rfl rfl (hK t2) hsub
    · exact rItemT ha (by decide) (by decide) rfl rfl (hK t1) hsub
  repeat (walk_at "st")
  by_cases hk2 : kd = 2
  · refine ite_pos (by subst hk2; rfl) ?_
    repeat (walk_at "st")
    rename St _ _ _ _ _ _ _ _ => S
    refine rLenL (S.base h2) (by (first | exact omq210 _ _ hg hgl | omega)) ?_
    repeat (walk_at "st")
    by_cases hc1 : c + gs.length = 1
    · refine ite_pos (by rw [beq_iff_eq]; (first | exact omq211 _ _ _ hgl hc1 | omega)) ?_
      repeat (walk_at "st")
      rename St _ _ _ _ _ _ _ _ => S
      have hwd : wordOf ⟨c, gs, kd⟩ = "Not" := by unfold wordOf; rw [if_pos ⟨hk2, hc1⟩]
      rw [hwd] at hret
      exact hret _ _ _ S.out
    · refine ite_neg (by rw [beq_iff_eq]; (first | exact omq212 _ _ _ hgl hc1 | omega)) ?_
      repeat (walk_at "st")
      rename St _ _ _ _ _ _ _ _ => S
      exact last (fun x => hc1 x.2) (S.new (.head _)) (fun t => hret _ _ _ S.out) (by with_unfolding_all rfl)
  · refine ite_neg (by rw [beq_iff_eq]; (first | exact omq213 _ hk2 | omega)) ?_
    repeat (walk_at "st")
    rename St _ _ _ _ _ _ _ _ => S
    exact last (fun x => hk2 x.1) (S.new (.head _)) (fun t => hret _ _ _ S.out) (by with_unfolding_all rfl)
end law_wordC
section
variable {prog : Program} {w : World} {A : Around} {Q E : Value → Shared → Prop} {s : Shared} 
theorem law_word {p : Addr} {vs : List Value} {kp : Nat} {rs : List PRow} {i : Nat} {r : PRow} {ti : Tok} (W : Wd w s.heap) (R : Rm A 2 10) (hp : s.heap.get? p = some (lstO vs kp)) (hpl : PlanIs s.heap vs rs) (hi : rs[i]? = some r) (hk : r.k ≤ 2) (hi2 : i < 1000) (hg : r.gs.length < 1000)
    (hret : ∀ h' tk' t, s.heap.StaysIn h' → Q (.str (wordOf r) t) { s with heap := h', toks := tk' }) : wpAny (model prog w) A (call (.ref 449) [.ref p, .int (i : Int) ti]) Q E s := worst_all (α := law_wordC.V) (default, Cx.one.w, {}, fun _ _ => True, fun _ _ => True, Cx.one.s) (fun _ : law_wordC.V => (0 : Nat)) (fun v => law_wordC.P v.1 v.2.1 v.2.2.1 v.2.2.2.1 v.2.2.2.2.1 v.2.2.2.2.2) (fun _ => @law_wordC.at_c) (prog, w, A, Q, E, s) W R hp hpl hi hk hi2 hg hret
end

/-! QL2 -/
section
variable {prog : Program} {w : World} {A : Around} {Q E : Value → Shared → Prop} {s : Shared} 

/-- what the law counts, from the last row on -/
noncomputable def countOf : List PRow → Nat
  | [] => 0
  | r :: rs => r.c * countOf rs + r.gs.length + (if r.k = 2 then 1 else 0)
/-- the whole list, turned round -/
theorem sliceRev {h₀ : Heap} {L : Addr} {cl : List (Str × Addr)} {l : List (Str × Value)} {lc : List (Str × Option Value)} {news : List (Addr × Obj)} {H : Heap} {gg : Array GenState} {dd : Drawn} {tk : Nat} {os : OsState} {la : Addr} {arr : List Value} {k : Nat} {tm : Tok} {value slice : Expr} {Q : Value → Shared → Prop} (S : St w h₀ L cl l lc news H) (hl : H.get? la = some (lstO arr k)) (hsz : arr.length ≤ sizeLine)
    (h : ∀ a h', H.StaysIn h' → St w h₀ L cl l lc ((a, lstO arr.reverse 0) :: news) h' → Q (.ref a) ⟨h', gg, dd, tk, os⟩)
    (hs : subscripted slice false (.ref la) (.ref H.objs.size) = operate [.ref la, .ref H.objs.size] (getItem (.ref la) (.ref H.objs.size)) := by with_unfolding_all rfl) :
      wpAny (model prog w) A (subscriptTail value slice (.ref la) (.ref H.objs.size)) Q E ⟨H.push { cls := .type "slice", data := .fields #[.none, .none, .int (-1) tm] }, gg, dd, tk, os⟩ := by
  have hl' : (H.push { cls := .type "slice", data := .fields #[.none, .none, .int (-1) tm] }).get? la = some (lstO arr k) := Heap.get?_push_of_some _ hl
  refine tail_any (s := ⟨H.push { cls := .type "slice", data := .fields #[.none, .none, .int (-1) tm] }, gg, dd, tk, os⟩) (isL hl').typeIs slot_list_getitem.lookup ?_ hs
  refine wpAny_getItem_list_slice (isL hl') (Heap.IsSliceOf.new ..) .none .none (.int (-1) _) (by decide) ?_ (by simpa using hsz)
  rw [krv_pick]
  have S1 := S.keeps (stays_push { cls := .type "slice", data := .fields #[.none, .none, .int (-1) tm] })
  exact h _ _ (stays_trans (stays_push _) (stays_push _)) (S1.push _ rfl)
theorem drop_cons {α : Type} {l : List α} {i : Nat} {x : α} (h : l.reverse[i]? = some x) : l.drop (l.length - (i + 1)) = x :: l.drop (l.length - i) := by
  have hi := (List.getElem?_eq_some_iff.mp h).1
  rw [List.length_reverse] at hi
  rw [List.getElem?_reverse hi] at h
  have e : l.length - i = (l.length - (i + 1)) + 1 := by (first | exact omq214 _ _ hi | omega)
  rw [e, List.drop_eq_getElem_cons (by (first | exact omq215 _ _ hi | omega))]
  congr 1
  have h2 := (List.getElem?_eq_some_iff.mp h).2
  rw [← h2]
  congr 1
  (first | exact omq216 _ _ hi | omega)

end
namespace law_countC
noncomputable abbrev V := Program × World × Around × (Value → Shared → Prop) × (Value → Shared → Prop) × Shared × Addr × List Value × Nat × List PRow
noncomputable def P (prog : Program) (w : World) (A : Around) (Q : Value → Shared → Prop) (E : Value → Shared → Prop) (s : Shared) (p : Addr) (vs : List Value) (kp : Nat) (rs : List PRow) : Prop := ∀ (W : Wd w s.heap) (R : Rm A 2 10) (hp : s.heap.get? p = some (lstO vs kp)) (hpl : PlanIs s.heap vs rs) (hn : rs.length ≤ 100) (hg : ∀ r, r ∈ rs → r.gs.length < 1000 ∧ r.c ≤ 3) (hret : ∀ h' tk' t, s.heap.StaysIn h' → Q (.int (countOf rs : Nat) t) { s with heap := h', toks := tk' }), wpAny (model prog w) A (call (.ref 461) [.ref p]) Q E s
noncomputable def wc : V := worst (α := V) (default, Cx.one.w, {}, fun _ _ => True, fun _ _ => True, Cx.one.s, (0 : Nat), [], (0 : Nat), []) (fun _ : V => (0 : Nat)) fun v => P v.1 v.2.1 v.2.2.1 v.2.2.2.1 v.2.2.2.2.1 v.2.2.2.2.2.1 v.2.2.2.2.2.2.1 v.2.2.2.2.2.2.2.1 v.2.2.2.2.2.2.2.2.1 v.2.2.2.2.2.2.2.2.2
noncomputable def prog : Program := wc.1
noncomputable def w : World := wc.2.1
noncomputable def A : Around := wc.2.2.1
noncomputable def Q : Value → Shared → Prop := wc.2.2.2.1
noncomputable def E : Value → Shared → Prop := wc.2.2.2.2.1
noncomputable def s : Shared := wc.2.2.2.2.2.1
noncomputable def p : Addr := wc.2.2.2.2.2.2.1
noncomputable def vs : List Value := wc.2.2.2.2.2.2.2.1
noncomputable def kp : Nat := wc.2.2.2.2.2.2.2.2.1
noncomputable def rs : List PRow := wc.2.2.2.2.2.2.2.2.2
theorem at_c (W : Wd w s.heap) (R : Rm A 2 10) (hp : s.heap.get? p = some (lstO vs kp)) (hpl : PlanIs s.heap vs rs) (hn : rs.length ≤ 100) (hg : ∀ r, r ∈ rs → r.gs.length < 1000 ∧ r.c ≤ 3) (hret : ∀ h' tk' t, s.heap.StaysIn h' → Q (.int (countOf rs : Nat) t) { s with heap := h', toks := tk' }) : wpAny (model prog w) A (call (.ref 461) [.ref p]) Q E s := by
  (refine' enter0 ?W ?ho ?hcd ?hroom ?hb ?hloc ?_ ?c1 ?c2 ?c3 ?c4; (case W => assumption); (case ho => k_is); (case hcd => k_is); (case hroom => exact Rm.room (by assumption)); (case hb => first | exact BindsTo.of_eq rfl | exact binds_K (Wd.K (by assumption)) rfl (by k_is) rfl rfl rfl); (case hloc => exact locs rfl); (case c1 => exact rfl); (case c2 => exact rfl); (case c3 => exact rfl); (case c4 => decide); intro _ _ _; (try dsimp only))
  rename St _ _ _ _ _ _ _ _ => S
  replace S := S.names (l' := [("plan", .ref p)]) ⟨rfl, trivial⟩
  repeat (walk_at "st")
  rename St _ _ _ _ _ _ _ _ => S
  refine sliceRev S (S.base hp) (by rw [sizeLine_eq, hpl.length]; (first | exact omq217 _ hn | omega)) fun la h' k1 S => ?_
  obtain ⟨S1, kz, hla⟩ := S.still (fun v q => nomatch q)
  clear S
  have hrev := (hpl.keep kz).reverse
  refine forListR (fun idx h₀' l lc news => news = [] ∧ lc = [] ∧ ∃ t, Sub l [("later", .int ((countOf (rs.drop (rs.length - idx)) : Nat) : Int) t), ("plan", .ref p)]) S1 (show A.handled = none from R.hh) hla ?_ ?_ ?_
  · refine ⟨rfl, rfl, ?_⟩
    rw [show rs.length - 0 = rs.length by (first | exact omq218 _ hn | omega), List.drop_length]
    exact ⟨_, rfl, rfl, trivial⟩
  · intro idx v h₀' l lc news h4 tk4 I oI hof hv k4 hJ S
    obtain ⟨rfl, rfl, t0, hsub⟩ := hJ
    replace S := S.names hsub
    obtain ⟨r, hr, t, ga, gv, tc, tk, kk, m, rfl, h1, h2, h3⟩ := hrev.get hv
    have hdr := drop_cons hr
    obtain ⟨hg1, hg2⟩ := hg r (List.mem_reverse.mp (List.mem_of_getElem? hr))
    have hgl : gv.length = r.gs.length := by rw [h3.length, List.length_map]
    refine rUnp S (show A.handled = none from R.hh) (S.base (k4 _ _ h1)) rfl rfl ?_
    intro h5 k5 S
    repeat (walk_at "st")
    rename St _ _ _ _ _ _ _ _ => S
    have hmul : ∀ x, IntMulOk (r.c : Int) x := fun x => .of_left (by
      rcases (by (first | exact omq219 _ hg2 | omega) : r.c = 0 ∨ r.c = 1 ∨ r.c = 2 ∨ r.c = 3) with e | e | e | e <;> rw [e] <;> decide)
    rename St _ _ _ _ _ _ _ _ => S
    refine rLenL (S.base (k4 _ _ h2)) (by (first | exact omq210 _ _ hg1 hgl | omega)) ?_
    repeat (walk_at "st")
    have fin : ∀ (x : Nat), x = (if r.k = 2 then 1 else 0) → ((countOf (rs.drop (rs.length - (idx + 1))) : Nat) : Int) = (r.c : Int) * ((countOf (rs.drop (rs.length - idx)) : Nat) : Int) + (gv.length : Int) + (x : Int) := by
      intro x hx
      rw [hdr, hgl, hx]
      show ((r.c * countOf (rs.drop (rs.length - idx)) + r.gs.length + (if r.k = 2 then 1 else 0) : Nat) : Int) = _
      rw [Int.natCast_add, Int.natCast_add, Int.natCast_mul]
    by_cases hk2 : r.k = 2
    · refine ite_pos (by rw [hk2]; rfl) ?_
      repeat (walk_at "st")
      rename St _ _ _ _ _ _ _ _ => S
      refine ⟨_, _, _, _, _, _, rfl, stays_refl, ⟨rfl, rfl, ?_⟩, S⟩
      rw [fin 1 (by rw [if_pos hk2])]
      exact ⟨_, rfl, rfl, trivial⟩
    · refine ite_neg (by rw [beq_iff_eq]; (first | exact omq213 _ hk2 | omega)) ?_
      repeat (walk_at "st")
      rename St _ _ _ _ _ _ _ _ => S
      refine ⟨_, _, _, _, _, _, rfl, stays_refl, ⟨rfl, rfl, ?_⟩, S⟩
      rw [fin 0 (by rw [if_neg hk2])]
      exact ⟨_, rfl, rfl, trivial⟩
  · intro h₀' l lc news h4 tk4 k4 hJ S
    obtain ⟨rfl, rfl, t0, hsub⟩ := hJ
    replace S := S.names hsub
    repeat (walk_at "st")
    rename St _ _ _ _ _ _ _ _ => S
    rw [show rs.length - vs.reverse.length = 0 by rw [List.length_reverse, hpl.length]; (first | exact omq220 _ | omega), List.drop_zero]
    exact hret _ _ _ (stays_trans kz (stays_trans k4 S.out))
end law_countC
section
variable {prog : Program} {w : World} {A : Around} {Q E : Value → Shared → Prop} {s : Shared} 
theorem law_count {p : Addr} {vs : List Value} {kp : Nat} {rs : List PRow} (W : Wd w s.heap) (R : Rm A 2 10) (hp : s.heap.get? p = some (lstO vs kp)) (hpl : PlanIs s.heap vs rs) (hn : rs.length ≤ 100) (hg : ∀ r, r ∈ rs → r.gs.length < 1000 ∧ r.c ≤ 3)
    (hret : ∀ h' tk' t, s.heap.StaysIn h' → Q (.int (countOf rs : Nat) t) { s with heap := h', toks := tk' }) : wpAny (model prog w) A (call (.ref 461) [.ref p]) Q E s := worst_all (α := law_countC.V) (default, Cx.one.w, {}, fun _ _ => True, fun _ _ => True, Cx.one.s, (0 : Nat), [], (0 : Nat), []) (fun _ : law_countC.V => (0 : Nat)) (fun v => law_countC.P v.1 v.2.1 v.2.2.1 v.2.2.2.1 v.2.2.2.2.1 v.2.2.2.2.2.1 v.2.2.2.2.2.2.1 v.2.2.2.2.2.2.2.1 v.2.2.2.2.2.2.2.2.1 v.2.2.2.2.2.2.2.2.2) (fun _ => @law_countC.at_c) (prog, w, A, Q, E, s, p, vs, kp, rs) W R hp hpl hn hg hret
end

/-! QR5 -/
section
variable {prog : Program} {w : World} {A : Around} {E : Value → Shared → Prop} {s : Shared} {h₀ h h' : Heap} {L : Addr} {env : Env} {cl : List (Str × Addr)} {l : List (Str × Value)} {lc : List (Str × Option Value)} {news news' : List (Addr × Obj)}

/-- a list times a number: the library's rule in words of St -/
theorem rMulL {la : Addr} {arr : List Value} {k : Nat} {x : Nat} {u : Tok} {Q : Value → Shared → Prop} (S : St w h₀ L cl l lc news s.heap) (hl : s.heap.get? la = some (lstO arr k)) (hx : x < 2 ^ 63) (hz : arr.length * x ≤ 256)
    (h : ∀ a h', St w h₀ L cl l lc ((a, lstO (List.replicate x arr).flatten 0) :: news) h' → Q (.ref a) { s with heap := h' }) :
    wpAny (model prog w) A (binaryOp .Mult (.ref la) (.int (x : Int) u)) Q E s := by
  obtain ⟨m, F, N, back⟩ := S.lib
  exact KMa.mul F N (isL hl) (by (first | exact omq221 _ hx | omega)) (by (first | exact omq222 _ hx | omega)) hz rfl fun a h' F' N' lt => h a h' (S.libNew back F' N' lt)
end

/-! QR6 -/
section
variable {prog : Program} {w : World} {A : Around} {E : Value → Shared → Prop} {s : Shared} {h₀ h h' : Heap} {L : Addr} {env : Env} {cl : List (Str × Addr)} {l : List (Str × Value)} {lc : List (Str × Option Value)} {news news' : List (Addr × Obj)}

/-- an object that is a list -/
noncomputable def LstO (arr : List Value) (o : Obj) : Prop := o.cls = .type "list" ∧ ∃ n, o.data = .seq arr.toArray n
theorem LstO.noCell {arr : List Value} {o : Obj} (x : LstO arr o) (v : Option Value) : o.data ≠ .cell v := fun q => by obtain ⟨_, n, e⟩ := x; rw [e] at q; cases q
theorem LstO.isL {arr : List Value} {o : Obj} {a : Addr} (x : LstO arr o) (e : h.get? a = some o) : h.IsList a arr.toArray := (by obtain ⟨c, n, d⟩ := x; exact ⟨o, e, c, n, d⟩)
/-- unpacking a list into names -/
theorem rUnpL {elts : List Expr} {k} {pos : Pos} {t : Addr} {items : List Value} {Q : Unit → Shared → Prop} (S : St w h₀ L cl l lc news s.heap) (hh : A.handled = none) (ht : s.heap.IsList t items.toArray)
    (hn : (assignEach elts env).length = items.length) (hstar : (assignEach elts env).findIdx? (·.1) = none)
    (h : ∀ h', s.heap.StaysIn h' → St w h₀ L cl l lc news h' → wpAny (model prog w) A (assignInOrder ((assignEach elts env).map (·.2)) items) Q E { s with heap := h' }) :
    wpAny (model prog w) A (assign (.Tuple elts k pos) env (.ref t)) Q E s := by
  rw [assign_Tuple]
  refine wpAny_bind (wpAny_standAt ?_)
  unfold unpack
  have sz : (assignEach elts env).length = items.toArray.size := by simpa using hn
  rw [sz, hstar]
  refine wpAny_bind (wpAny_holding (kun_itemsOf hh ht fun h' he => ?_))
  have st : s.heap.StaysIn h' := fun b o e => he b o (Nat.ne_of_lt (Heap.lt_size e)) e
  exact h h' st (S.keeps st)
/-- a list of the ledger stored into -/
theorem rSetL {pre post : List (Addr × Obj)} {d : Addr} {o : Obj} {arr : List Value} {i : Int} {u : Tok} {x : Value} {Q : Unit → Shared → Prop} (S : St w h₀ L cl l lc (pre ++ (d, o) :: post) s.heap) (ho : LstO arr o) (h0 : 0 ≤ i) (h1 : i < arr.length) (h2 : i < 2 ^ 63)
    (h : ∀ h' o', LstO (arr.set i.toNat x) o' → St w h₀ L cl l lc (pre ++ (d, o') :: post) h' → (∀ b x, b ∉ [d] → s.heap.get? b = some x → h'.get? b = some x) → Q () { s with heap := h' }) :
    wpAny (model prog w) A (setItem (.ref d) (.int i u) x) Q E s := by
  refine wpAny_setItem_list (ho.isL (S.new (by simp))) h0 h2 (by simpa using h1) fun h' hl hs => ?_
  obtain ⟨o', e1, e2, n, e3⟩ := hl
  refine h h' o' ⟨e2, n, by rw [e3]; simp⟩ (S.upd' ho.noCell hs e1) fun b x hb e => (hs.2 b (by simpa using hb)).trans e
/-- a list's slice, of step one -/
theorem sliceI {H : Heap} {gg : Array GenState} {dd : Drawn} {tk : Nat} {os : OsState} {la : Addr} {arr vs' : List Value} {vl vu : Value} {lo hi : Option Int} {Q : Value → Shared → Prop} (S : St w h₀ L cl l lc news H) (hl : H.IsList la arr.toArray) (pl : IsPart vl lo) (pu : IsPart vu hi)
    (e : slicePick arr.toArray lo hi none = vs'.toArray) (hsz : arr.length ≤ sizeLine)
    (h : ∀ a h', H.StaysIn h' → H.get? a = none → St w h₀ L cl l lc ((a, lstO vs' 0) :: news) h' → Q (.ref a) ⟨h', gg, dd, tk, os⟩) :
    (⟨H.push { cls := .type "slice", data := .fields #[vl, vu, .none] }, gg, dd, tk, os⟩ : Shared).TypeIs (.ref la) "list" ∧
      wpAny (model prog w) A (getItem (.ref la) (.ref H.objs.size)) Q E ⟨H.push { cls := .type "slice", data := .fields #[vl, vu, .none] }, gg, dd, tk, os⟩ := by
  have hl' : (H.push { cls := .type "slice", data := .fields #[vl, vu, .none] }).IsList la arr.toArray := hl.push _
  refine ⟨hl'.typeIs, wpAny_getItem_list_slice hl' (Heap.IsSliceOf.new ..) pl pu .none (by decide) ?_ (by simpa using hsz)⟩
  rw [e]
  have S1 := S.keeps (stays_push { cls := .type "slice", data := .fields #[vl, vu, .none] })
  exact h _ _ (stays_trans (stays_push _) (stays_push _)) (Heap.get?_none_of_le (by rw [Heap.size_push]; exact Nat.le_succ _)) (S1.push _ rfl)
theorem slice_to (arr : List Value) (b : Nat) : slicePick arr.toArray none (some (b : Int)) none = (arr.take b).toArray := by
  rw [slicePick_plain]
  show ((arr.toArray.toList.drop 0).take (clipAt arr.toArray.size (b : Int) - 0)).toArray = _
  rw [clipAt_nat, List.drop_zero, Nat.sub_zero, List.size_toArray]
  rcases Nat.le_total b arr.length with q | q
  · rw [Nat.min_eq_left q]
  · rw [Nat.min_eq_right q, List.take_of_length_le (by simp), List.take_of_length_le q]
end

/-! QL3 -/
section
variable {prog : Program} {w : World} {A : Around} {Q E : Value → Shared → Prop} {s : Shared} 

/-- the law's source -/
noncomputable def SrcO (ca : Addr) (rest : Int) (place : Nat) (o : Obj) : Prop := ∃ t1 t2, LstO [.ref ca, .int rest t1, .int (place : Int) t2] o

end
namespace law_takeC
noncomputable abbrev V := Program × World × Around × (Value → Shared → Prop) × (Value → Shared → Prop) × Shared
noncomputable def P (prog : Program) (w : World) (A : Around) (Q : Value → Shared → Prop) (E : Value → Shared → Prop) (s : Shared) : Prop := ∀ {src ca : Addr} {o : Obj} {cv : List Value} {cns : List Int} {kc : Nat} {rest : Int} {place lim : Nat} {tl : Tok} (ho : s.heap.get? src = some o) (hS : SrcO ca rest place o) (W : Wd w (hideAll s.heap [src])) (R : Rm A 2 10) (hca : (hideAll s.heap [src]).get? ca = some (lstO cv kc)) (hcv : IntsAre cv cns) (hc0 : 0 < cns.length) (hc1 : cns.length < 1000) (hr : 0 ≤ rest) (hp : place < 1000) (hl0 : 0 < lim) (hl1 : lim < 1000) (hret : ∀ h' tk' o' rest' v t, v < lim → SrcO ca rest' (place + 1) o' → 0 ≤ rest' → (∀ b x, b ∉ [src] → s.heap.get? b = some x → h'.get? b = some x) → h'.get? src = some o' → Q (.int (v : Nat) t) { s with heap := h', toks := tk' }), wpAny (model prog w) A (call (.ref 432) [.ref src, .int (lim : Int) tl]) Q E s
noncomputable def wc : V := worst (α := V) (default, Cx.one.w, {}, fun _ _ => True, fun _ _ => True, Cx.one.s) (fun _ : V => (0 : Nat)) fun v => P v.1 v.2.1 v.2.2.1 v.2.2.2.1 v.2.2.2.2.1 v.2.2.2.2.2
noncomputable def prog : Program := wc.1
noncomputable def w : World := wc.2.1
noncomputable def A : Around := wc.2.2.1
noncomputable def Q : Value → Shared → Prop := wc.2.2.2.1
noncomputable def E : Value → Shared → Prop := wc.2.2.2.2.1
noncomputable def s : Shared := wc.2.2.2.2.2
theorem at_c {src ca : Addr} {o : Obj} {cv : List Value} {cns : List Int} {kc : Nat} {rest : Int} {place lim : Nat} {tl : Tok} (ho : s.heap.get? src = some o) (hS : SrcO ca rest place o) (W : Wd w (hideAll s.heap [src])) (R : Rm A 2 10) (hca : (hideAll s.heap [src]).get? ca = some (lstO cv kc)) (hcv : IntsAre cv cns) (hc0 : 0 < cns.length) (hc1 : cns.length < 1000) (hr : 0 ≤ rest) (hp : place < 1000) (hl0 : 0 < lim) (hl1 : lim < 1000) (hret : ∀ h' tk' o' rest' v t, v < lim → SrcO ca rest' (place + 1) o' → 0 ≤ rest' → (∀ b x, b ∉ [src] → s.heap.get? b = some x → h'.get? b = some x) → h'.get? src = some o' → Q (.int (v : Nat) t) { s with heap := h', toks := tk' }) : wpAny (model prog w) A (call (.ref 432) [.ref src, .int (lim : Int) tl]) Q E s := by
  obtain ⟨t1, t2, hS⟩ := hS
  have hres : ∀ x : Int, ∃ v : Nat, v < lim ∧ x.fmod lim = v := fun x => by
    have a1 : 0 ≤ x.fmod lim := Int.fmod_nonneg_of_pos _ (by (first | exact omq223 _ hl0 hl1 | omega))
    have a2 := Int.fmod_lt_of_pos x (b := (lim : Int)) (by (first | exact omq223 _ hl0 hl1 | omega))
    exact ⟨(x.fmod lim).toNat, by (first | exact omq224 _ _ a1 a2 | omega), by (first | exact omq225 _ a1 | omega)⟩
  have hlen : cv.length = cns.length := hcv.length
  refine' enter (news := [(src, o)]) ?hn ?hnd ?W ?ho ?hcd ?hroom ?hb ?hloc ?_ ?c1 ?c2 ?c3 ?c4
  (case hn => intro p hp; rw [List.mem_singleton.mp hp]; exact ho)
  (case hnd => simp)
  (case W => exact W)
  (case ho => k_is)
  (case hcd => k_is)
  (case hroom => exact Rm.room (by assumption))
  (case hb => exact BindsTo.of_eq rfl)
  (case hloc => exact locs rfl)
  (case c1 => exact rfl)
  (case c2 => exact rfl)
  (case c3 => exact rfl)
  (case c4 => decide)
  intro h₁ tk₁ S k₁
  dsimp only at S k₁ ⊢
  replace S := S.names (l' := [("limit", .int (lim : Int) tl), ("source", .ref src)]) ⟨rfl, rfl, trivial⟩
  have kk0 : ∀ b x, b ∉ [src] → s.heap.get? b = some x → (hideAll s.heap [src]).get? b = some x := fun b x hb e => hideAll_get _ e hb
  repeat (walk_at "st")
  rename St _ _ _ _ _ _ _ _ => S
  refine rUnpL S (show A.handled = none from R.hh) (hS.isL (S.new (.head _))) rfl rfl fun h' k S => ?_
  repeat (walk_at "st")
  rename St _ _ _ _ _ _ _ _ => S
  refine rSetL (pre := []) (post := []) S hS (by decide) (by simp) (by decide) fun h' o2 hS2 S kk => ?_
  repeat (walk_at "st")
  by_cases hz : 0 < rest
  · refine ite_pos (by simpa using hz) ?_
    repeat (walk_at "st")
    rename St _ _ _ _ _ _ _ _ => S
    refine rSetL (pre := []) (post := []) S hS2 (by decide) (by simp) (by decide) fun h' o3 hS3 S kk => ?_
    repeat (walk_at "st")
    obtain ⟨v, hv, ev⟩ := hres rest
    rw [ev]
    exact hret _ _ o3 (rest.fdiv lim) v _ hv ⟨_, _, hS3⟩ (Int.fdiv_nonneg (by (first | exact omq226 _ hr | omega)) (by (first | exact omq227 _ hl0 hl1 | omega))) (fun b x hb e => S.out _ _ (kk0 b x hb e)) (S.new (by simp))
  · refine ite_neg (by simpa using hz) ?_
    repeat (walk_at "st")
    rename St _ _ _ _ _ _ _ _ => S
    refine rLenL (S.base hca) (by (first | exact omq228 _ _ hc0 hc1 hlen | omega)) ?_
    repeat (walk_at "st")
    have hmod0 : 0 ≤ (place : Int).fmod cv.length := Int.fmod_nonneg (by (first | exact omq207 _ hp | omega)) (by (first | exact omq229 _ _ hc0 hc1 hlen | omega))
    have hmod1 : (place : Int).fmod cv.length < cv.length := Int.fmod_lt_of_pos _ (by (first | exact omq230 _ _ hc0 hc1 hlen | omega))
    obtain ⟨vx, hvx⟩ : ∃ vx, cv[((place : Int).fmod cv.length).toNat]? = some vx := ⟨_, List.getElem?_eq_getElem (by (first | exact omq224 _ _ hmod0 hmod1 | omega))⟩
    obtain ⟨n, tn, rfl, hn⟩ := IntsAre.at hcv _ _ hvx
    refine rItemL (S.base hca) hmod0 (by (first | exact omq231 _ _ _ hc0 hc1 hlen hmod1 | omega)) hvx ?_
    repeat (walk_at "st")
    rename St _ _ _ _ _ _ _ _ => S
    refine rLenL (S.base hca) (by (first | exact omq228 _ _ hc0 hc1 hlen | omega)) ?_
    repeat (walk_at "st")
    obtain ⟨v, hv, ev⟩ := hres (n + (((place : Int).fdiv cv.length) * (3 * (place : Int) + 5)).fdiv 2)
    rw [ev]
    exact hret _ _ o2 rest v _ hv ⟨_, _, hS2⟩ hr (fun b x hb e => S.out _ _ (kk0 b x hb e)) (S.new (by simp))
end law_takeC
section
variable {prog : Program} {w : World} {A : Around} {Q E : Value → Shared → Prop} {s : Shared} 
theorem law_take {src ca : Addr} {o : Obj} {cv : List Value} {cns : List Int} {kc : Nat} {rest : Int} {place lim : Nat} {tl : Tok} (ho : s.heap.get? src = some o) (hS : SrcO ca rest place o) (W : Wd w (hideAll s.heap [src])) (R : Rm A 2 10)
    (hca : (hideAll s.heap [src]).get? ca = some (lstO cv kc)) (hcv : IntsAre cv cns) (hc0 : 0 < cns.length) (hc1 : cns.length < 1000) (hr : 0 ≤ rest) (hp : place < 1000) (hl0 : 0 < lim) (hl1 : lim < 1000)
    (hret : ∀ h' tk' o' rest' v t, v < lim → SrcO ca rest' (place + 1) o' → 0 ≤ rest' → (∀ b x, b ∉ [src] → s.heap.get? b = some x → h'.get? b = some x) → h'.get? src = some o' → Q (.int (v : Nat) t) { s with heap := h', toks := tk' }) : wpAny (model prog w) A (call (.ref 432) [.ref src, .int (lim : Int) tl]) Q E s := worst_all (α := law_takeC.V) (default, Cx.one.w, {}, fun _ _ => True, fun _ _ => True, Cx.one.s) (fun _ : law_takeC.V => (0 : Nat)) (fun v => law_takeC.P v.1 v.2.1 v.2.2.1 v.2.2.2.1 v.2.2.2.2.1 v.2.2.2.2.2) (fun _ => @law_takeC.at_c) (prog, w, A, Q, E, s) ho hS W R hca hcv hc0 hc1 hr hp hl0 hl1 hret
end

/-! QL4 -/
section
variable {prog : Program} {w : World} {A : Around} {Q E : Value → Shared → Prop} {s : Shared} 

end
namespace law_sourceC
noncomputable abbrev V := Program × World × Around × (Value → Shared → Prop) × (Value → Shared → Prop) × Shared
noncomputable def P (prog : Program) (w : World) (A : Around) (Q : Value → Shared → Prop) (E : Value → Shared → Prop) (s : Shared) : Prop := ∀ {sc : Addr} {sv : List Value} {ns : List Int} (W : Wd w s.heap) (R : Rm A 2 10) (hsc : s.heap.IsList sc sv.toArray) (his : IntsAre sv ns) (hn : ns.length ≤ 63) (hret : ∀ h' tk' src ca o cv cns kc rest, s.heap.StaysIn h' → s.heap.get? src = none → s.heap.get? ca = none → src ≠ ca → h'.get? src = some o → SrcO ca rest 0 o → h'.get? ca = some (lstO cv kc) → IntsAre cv cns → 0 < cns.length → cns.length < 1000 → 0 ≤ rest → Q (.ref src) { s with heap := h', toks := tk' }), wpAny (model prog w) A (call (.ref 425) [.ref sc]) Q E s
noncomputable def wc : V := worst (α := V) (default, Cx.one.w, {}, fun _ _ => True, fun _ _ => True, Cx.one.s) (fun _ : V => (0 : Nat)) fun v => P v.1 v.2.1 v.2.2.1 v.2.2.2.1 v.2.2.2.2.1 v.2.2.2.2.2
noncomputable def prog : Program := wc.1
noncomputable def w : World := wc.2.1
noncomputable def A : Around := wc.2.2.1
noncomputable def Q : Value → Shared → Prop := wc.2.2.2.1
noncomputable def E : Value → Shared → Prop := wc.2.2.2.2.1
noncomputable def s : Shared := wc.2.2.2.2.2
theorem at_c {sc : Addr} {sv : List Value} {ns : List Int} (W : Wd w s.heap) (R : Rm A 2 10) (hsc : s.heap.IsList sc sv.toArray) (his : IntsAre sv ns) (hn : ns.length ≤ 63) (hret : ∀ h' tk' src ca o cv cns kc rest, s.heap.StaysIn h' → s.heap.get? src = none → s.heap.get? ca = none → src ≠ ca → h'.get? src = some o → SrcO ca rest 0 o → h'.get? ca = some (lstO cv kc) → IntsAre cv cns → 0 < cns.length → cns.length < 1000 → 0 ≤ rest → Q (.ref src) { s with heap := h', toks := tk' }) : wpAny (model prog w) A (call (.ref 425) [.ref sc]) Q E s := by
  (refine' enter0 ?W ?ho ?hcd ?hroom ?hb ?hloc ?_ ?c1 ?c2 ?c3 ?c4; (case W => assumption); (case ho => k_is); (case hcd => k_is); (case hroom => exact Rm.room (by assumption)); (case hb => first | exact BindsTo.of_eq rfl | exact binds_K (Wd.K (by assumption)) rfl (by k_is) rfl rfl rfl); (case hloc => exact locs rfl); (case c1 => exact rfl); (case c2 => exact rfl); (case c3 => exact rfl); (case c4 => decide); intro _ _ _; (try dsimp only))
  rename St _ _ _ _ _ _ _ _ => S
  replace S := S.names (l' := [("script", .ref sc)]) ⟨rfl, trivial⟩
  have hlen : sv.length = ns.length := his.length
  refine wpAny_execs_cons ?_
  refine wpAny_mono (Q := fun f s' => f = .next ∧ ∃ h2 tk2 D cv cns kc h0, s' = { s with heap := h2, toks := tk2 } ∧ s.heap.StaysIn h0 ∧ St w h0 s.heap.objs.size [] [("cells", .ref D), ("script", .ref sc)] [] [(D, lstO cv kc)] h2 ∧ IntsAre cv cns ∧ 0 < cns.length ∧ cns.length < 1000) ?_ (fun v s' hmid => ?_) fun _ _ e => e
  · repeat (walk_at "st")
    rename St _ _ _ _ _ _ _ _ => S
    refine rLC [] ?_
    repeat (walk_at "st")
    rename St _ _ _ _ _ _ _ _ => S
    refine sliceI S (stays_list S.out hsc) .none (.int 60 _) (vs' := sv.take 60) (slice_to sv 60) (by rw [sizeLine_eq]; (first | exact omq232 _ _ hn hlen | omega)) fun la h' k hn1 S => ?_
    obtain ⟨S1, kz, hla⟩ := S.still (fun v q => nomatch q)
    clear S
    have his' : IntsAre (sv.take 60) (ns.take 60) := his.take _
    refine lcList (fun i' h₀' lc' news' acc => news' = [] ∧ lc' = [] ∧ IntsAre acc ((ns.take 60).take i')) S1 (show A.handled = none from R.hh) hla (by rw [sizeLine_eq, List.length_take]; (first | exact omq233 _ _ hn hlen | omega)) ⟨rfl, rfl, .nil⟩ ?_ ?_
    · intro i' v h₀' lc' news' h4 tk4 I oI C' D oL kD acc hled hv k4 hJ S
      obtain ⟨rfl, rfl, hia⟩ := hJ
      obtain ⟨n, t, rfl, hn'⟩ := IntsAre.at his' _ _ hv
      repeat (walk_at "st")
      refine call_int_int ?_
      exact ⟨_, _, _, _, _, rfl, stays_refl, ⟨rfl, rfl, by rw [List.take_add_one, hn']; exact hia.append (.cons _ _ .nil)⟩, S⟩
    · intro h₀' lc' news' h4 tk4 C' D oC kD acc m' hJ hlen' k4 S hn
      obtain ⟨rfl, rfl, hia⟩ := hJ
      refine fin0 S hn fun h5 S => ?_
      repeat (walk_at "st")
      have hacc := hia.length
      rw [List.take_of_length_le (by rw [List.length_take, List.length_take]; (first | exact omq234 _ _ (by assumption) hlen | omega))] at hia
      have hacc2 : acc.length = min 60 ns.length := by rw [hia.length, List.length_take]
      rename St _ _ _ _ _ _ _ _ => S
      refine wpAny_truthy_list (isL (S.new (.head _))) (by rw [List.size_toArray]; (first | exact omq235 _ _ _ _ _ (by assumption) hlen hlen' hacc hacc2 | omega)) ?_
      by_cases hz : ns = []
      · subst hz
        have ha : acc = [] := by rw [← List.length_eq_zero_iff, hacc2]; rfl
        subst ha
        refine ite_neg (by simp) ?_
        repeat (walk_at "st")
        rename St _ _ _ _ _ _ _ _ => S
        exact ⟨rfl, _, _, _, _, [6], _, h₀', rfl, stays_trans kz k4, (S.snd).names (l' := [("cells", .ref _), ("script", .ref sc)]) ⟨rfl, rfl, trivial⟩, .cons _ _ .nil, by decide, by decide⟩
      · have hpos : 0 < ns.length := List.length_pos_iff.mpr hz
        have ha : acc ≠ [] := fun q => by rw [q] at hacc2; simp at hacc2; (first | exact (omq236 _ _ (by assumption) hlen hacc2 hpos).elim | omega)
        refine ite_pos (by simpa using ha) ?_
        repeat (walk_at "st")
        rename St _ _ _ _ _ _ _ _ => S
        exact ⟨rfl, _, _, _, _, _, _, h₀', rfl, stays_trans kz k4, S.names (l' := [("cells", .ref _), ("script", .ref sc)]) ⟨rfl, rfl, trivial⟩, hia, by rw [List.length_take]; (first | exact omq237 _ _ _ _ _ (by assumption) hlen hlen' hacc hacc2 hpos | omega), by rw [List.length_take]; (first | exact omq238 _ _ (by assumption) hlen hpos | omega)⟩
  · obtain ⟨rfl, h2, tk2, D, cv, cns, kc, h0, rfl, k0, S, hcv, hc0, hc1⟩ := hmid
    repeat (walk_at "st")
    obtain ⟨v0, hv0⟩ : ∃ v, cv[0]? = some v := ⟨_, List.getElem?_eq_getElem (by rw [hcv.length]; (first | exact omq239 _ hc0 | omega))⟩
    obtain ⟨n0, t0, rfl, hn0⟩ := IntsAre.at hcv _ _ hv0
    rename St _ _ _ _ _ _ _ _ => S
    refine rItemL (S.new (.head _)) (by decide) (by decide) hv0 ?_
    repeat (walk_at "st")
    refine call_abs_int fun u tk => ?_
    repeat (walk_at "st")
    refine pow_int_small (by decide) (by decide) (by decide) ?_
    repeat (walk_at "st")
    have fin : ∀ {l' : List (Str × Value)} {aN : Addr} {t1 t2 : Tok} {h3 : Heap} {tk3 : Nat} {rest : Int}, St w h0 s.heap.objs.size [] l' [] [(aN, lstO [.ref D, .int rest t1, .int 0 t2] 0), (D, lstO cv kc)] h3 → 0 ≤ rest → Q (.ref aN) { s with heap := h3, toks := tk3 } :=
      fun S hr => hret _ _ _ D _ cv cns kc _ (stays_trans k0 S.out) (fresh_of_stays k0 (S.nw _ (.head _)).2.2) (fresh_of_stays k0 (S.nw _ (.tail _ (.head _))).2.2) (by
        have := S.nd
        rw [List.map_cons, List.nodup_cons] at this
        intro q; exact this.1 (by rw [q]; exact .head _)) (S.new (.head _)) ⟨_, _, rfl, _, rfl⟩ (S.new (.tail _ (.head _))) hcv hc0 hc1 hr
    by_cases hb : (10 : Int) ^ (12 : Int).toNat ≤ (if n0 < 0 then -n0 else n0)
    · refine ite_pos (by simpa using hb) ?_
      repeat (walk_at "st")
      rename St _ _ _ _ _ _ _ _ => S
      refine rItemL (S.new (.head _)) (by decide) (by decide) hv0 ?_
      repeat (walk_at "st")
      refine call_abs_int fun u tk => ?_
      repeat (walk_at "st")
      refine pow_int_small (by decide) (by decide) (by decide) ?_
      repeat (walk_at "st")
      refine pow_int_small (by decide) (by decide) (by decide) ?_
      repeat (walk_at "st")
      rename St _ _ _ _ _ _ _ _ => S
      exact fin S (Int.fmod_nonneg_of_pos _ (by decide +kernel))
    · refine ite_neg (by simpa using hb) ?_
      repeat (walk_at "st")
      rename St _ _ _ _ _ _ _ _ => S
      exact fin S (Int.le_refl 0)
end law_sourceC
section
variable {prog : Program} {w : World} {A : Around} {Q E : Value → Shared → Prop} {s : Shared} 
theorem law_source {sc : Addr} {sv : List Value} {ns : List Int} (W : Wd w s.heap) (R : Rm A 2 10) (hsc : s.heap.IsList sc sv.toArray) (his : IntsAre sv ns) (hn : ns.length ≤ 63)
    (hret : ∀ h' tk' src ca o cv cns kc rest, s.heap.StaysIn h' → s.heap.get? src = none → s.heap.get? ca = none → src ≠ ca → h'.get? src = some o → SrcO ca rest 0 o → h'.get? ca = some (lstO cv kc) → IntsAre cv cns → 0 < cns.length → cns.length < 1000 → 0 ≤ rest → Q (.ref src) { s with heap := h', toks := tk' }) : wpAny (model prog w) A (call (.ref 425) [.ref sc]) Q E s := worst_all (α := law_sourceC.V) (default, Cx.one.w, {}, fun _ _ => True, fun _ _ => True, Cx.one.s) (fun _ : law_sourceC.V => (0 : Nat)) (fun v => law_sourceC.P v.1 v.2.1 v.2.2.1 v.2.2.2.1 v.2.2.2.2.1 v.2.2.2.2.2) (fun _ => @law_sourceC.at_c) (prog, w, A, Q, E, s) W R hsc his hn hret
end

/-! QR7 -/
section
variable {prog : Program} {w : World} {A : Around} {E : Value → Shared → Prop} {s : Shared} {h₀ h h' g : Heap} {L : Addr} {env : Env} {cl : List (Str × Addr)} {l : List (Str × Value)} {lc : List (Str × Option Value)} {news news' : List (Addr × Obj)}

/-- what is new since g -/
noncomputable def newer (g h : Heap) : Heap := hideAll h ((List.range g.objs.size).filter fun a => (g.get? a).isSome)
theorem newer_get {a : Addr} {o : Obj} (e : h.get? a = some o) (n : g.get? a = none) : (newer g h).get? a = some o :=
  hideAll_get _ e fun hm => by
    have := (List.mem_filter.mp hm).2
    rw [n] at this; cases this
theorem newer_stays : (newer g h).StaysIn h := fun b o e => of_hideAll _ e
theorem newer_old {a : Addr} {o : Obj} (e : g.get? a = some o) : (newer g h).get? a = none :=
  hideAll_none _ (List.mem_filter.mpr ⟨List.mem_range.mpr (Heap.lt_size e), by rw [e]; rfl⟩)
theorem newer_none {a : Addr} {o : Obj} (e : (newer g h).get? a = some o) : g.get? a = none := by
  cases q : g.get? a with
  | none => rfl
  | some o' => rw [newer_old q] at e; cases e
theorem newer_mono (k : h.StaysIn h') : (newer g h).StaysIn (newer g h') := fun b o e => newer_get (k _ _ (newer_stays _ _ e)) (newer_none e)
/-- an elder mark: what is new since more is new since less -/
theorem newer_less {g' : Heap} (k : ∀ a o, g'.get? a = some o → ∃ o', g.get? a = some o') : (newer g h).StaysIn (newer g' h) := fun b o e => newer_get (newer_stays _ _ e) (by
  have := newer_none e
  cases q : g'.get? b with
  | none => rfl
  | some o' => obtain ⟨o2, e2⟩ := k _ _ q; rw [this] at e2; cases e2)
theorem St.loose_in (S : St w h₀ L cl l lc news h) {b : Addr} (hm : b ∈ loose L cl lc news) : ∃ o, h.get? b = some o := by
  rcases List.mem_append.mp hm with hm | hm
  · rcases List.mem_cons.mp hm with rfl | hm
    · obtain ⟨o, _, _, e, _⟩ := S.here; exact ⟨o, e⟩
    · obtain ⟨⟨y, u⟩, hy, hc⟩ := List.mem_filterMap.mp hm
      obtain ⟨v, hv⟩ := mem_lc ⟨u, hy⟩
      obtain ⟨c, o', a1, a2, a3, _⟩ := S.ce y v hv
      rw [a1] at hc; cases hc
      exact ⟨o', a2⟩
  · obtain ⟨p, hp, rfl⟩ := List.mem_map.mp hm
    exact ⟨_, (S.nw p hp).1⟩
/-- all that a call has made stands still from here on -/
theorem St.adopt (S : St w h₀ L cl l lc news h) (k : h.StaysIn h') : ∃ h₁, St w h₁ L cl l lc news h' ∧ h₀.StaysIn h₁ ∧ (newer h h').StaysIn h₁ := by
  have S' := S.keeps k
  refine ⟨_, S'.freeze.1, S'.freeze.2, fun b o e => hideAll_get _ (newer_stays _ _ e) fun hm => ?_⟩
  obtain ⟨o', e'⟩ := S.loose_in hm
  rw [newer_none e] at e'; cases e'
/-- the ledger's head stands still from here on, in some heap -/
theorem St.rest {a : Addr} {o : Obj} (S : St w h₀ L cl l lc ((a, o) :: news) h) (ho : ∀ v, o.data ≠ .cell v) : ∃ h₁, St w h₁ L cl l lc news h ∧ h₀.StaysIn h₁ ∧ h₁.get? a = some o :=
  ⟨_, S.still ho⟩
theorem St.cool (S : St w h₀ L cl l lc news h) : ∃ h₁, St w h₁ L cl l lc news h ∧ h₀.StaysIn h₁ ∧ h₁ = hideAll h (loose L cl lc news) := ⟨_, S.freeze.1, S.freeze.2, rfl⟩
theorem St.adopt2 (S : St w h₀ L cl l lc news h) (k : h.StaysIn h') : ∃ h₁, St w h₁ L cl l lc news h' ∧ h₀.StaysIn h₁ ∧ ∀ g, g.StaysIn h → (newer h h').StaysIn (newer g h₁) := by
  obtain ⟨h₁, S1, k1, kN⟩ := S.adopt k
  exact ⟨h₁, S1, k1, fun g gh b o e => newer_get (kN _ _ e) (fresh_of_stays gh (newer_none e))⟩
end

/-! QR8 -/
theorem lk_list_keys : typeLookup (.type "list") "keys" = pure none := by rw [typeLookup_type, builtinLookup_eq_fast]; kernel_rfl
section
variable {prog : Program} {w : World} {A : Around} {E : Value → Shared → Prop} {s : Shared} {a : Addr} {arr : List Value} {k : Nat}
/-- a list has no «keys»: asked quietly -/
theorem keys_none {Q : Option Value → Shared → Prop} (hA : A.handled = none) (hx : s.heap.get? a = some (lstO arr k))
    (h : ∀ h' tk, s.heap.StaysIn h' → Q none { s with heap := h', toks := tk }) : wpAny (model prog w) A (getAttr? (.ref a) "keys") Q E s := by
  have l1 : Looks (model prog w) s.heap (typeOf (.ref a)) (.type "list") := (Looks.ld hx).andThen .now
  have l2 : Looks (model prog w) s.heap (typeLookup (.type "list") "__getattribute__") (some (.builtin "list.__getattribute__")) := Looks.of_pure F.slot_list_getattribute.lookup
  have l3 : Looks (model prog w) s.heap (bindSpecial (.builtin "list.__getattribute__") (.ref a)) (.builtin "list.__getattribute__", [.ref a]) := Looks.of_pure (F.slot_list_getattribute.bind _)
  have miss : ∀ u, wpAny (model prog w) A (call (.builtin "list.__getattribute__") [.ref a, .str "keys" u]) (fun _ _ => False) (fun e s' => ∃ h' tk x, e = .ref x ∧ s' = { s with heap := h', toks := tk } ∧ Heap.NewAttrErr s.heap h' x (.ref a) "keys") { s with toks := s.toks + 1 } := fun u =>
    call_meets F.slot_list_getattribute ⟨_, hx, rfl⟩ am_entry_list_getattribute (F.args_list_getattribute_2 _ _) (meets_getattribute_miss_list a arr.toArray k #[] "keys" u lk_list_keys (by decide) (by decide)) ⟨hx, hA, fun h' tk x n => ⟨h', tk, x, rfl, rfl, n⟩⟩
  obtain ⟨hp, g, d, tk, os⟩ := s
  unfold getAttr? getAttrBy?
  have sub : ∀ {h' : Heap} {x : Addr}, Heap.NewAttrErr hp h' x (.ref a) "keys" → Looks (model prog w) h' (isInstance (.ref x) (.type "AttributeError")) true := fun n => by
    obtain ⟨_, _, he⟩ := n.there
    exact ((Looks.ld he).andThen .now).andThen (Looks.of_pure sub_AttributeError)
  have hook : ∀ {h' : Heap}, Looks (model prog w) h' (typeLookup (.type "list") "__getattr__") none := Looks.of_pure am_list_getattr_none
  repeat (first
    | with_reducible refine wpAny_mkText ?_
    | with_reducible refine wpAny_attempt ?_
    | ((with_reducible show wpAny _ _ (call _ _) _ _ _); refine wpAny_mono (miss _) (fun _ _ x => x.elim) ?_; rintro _ _ ⟨h', tk', x, rfl, rfl, n⟩; have is := sub n; have no := hook (h' := h'); have out := h h' tk' n.keeps)
    | with_reducible refine wpAny_throw ?_
    | lk)
  exact out
end
noncomputable def Prs (h : Heap) : List Value → List (Int × Bool) → Prop
  | [], [] => True
  | v :: vs, (n, b) :: r => (∃ t u m, v = .ref t ∧ h.get? t = some (tupO [.int n u, .bool b] m)) ∧ Prs h vs r
  | _, _ => False
theorem Prs.keep {h h' : Heap} (k : h.StaysIn h') : ∀ {vs : List Value} {bs : List (Int × Bool)}, Prs h vs bs → Prs h' vs bs
  | [], [], _ => trivial
  | _ :: _, (_, _) :: _, ⟨⟨t, u, m, e1, e2⟩, r⟩ => ⟨⟨t, u, m, e1, k _ _ e2⟩, Prs.keep k r⟩
  | [], _ :: _, x => x
  | _ :: _, [], x => x
theorem Prs.length {h : Heap} : ∀ {vs : List Value} {bs : List (Int × Bool)}, Prs h vs bs → vs.length = bs.length
  | [], [], _ => rfl
  | _ :: _, (_, _) :: _, ⟨_, r⟩ => by rw [List.length_cons, List.length_cons, Prs.length r]
  | [], _ :: _, x => x.elim
  | _ :: _, [], x => x.elim
theorem Prs.append {h : Heap} : ∀ {vs us : List Value} {bs cs : List (Int × Bool)}, Prs h vs bs → Prs h us cs → Prs h (vs ++ us) (bs ++ cs)
  | [], _, [], _, _, y => y
  | _ :: _, _, (_, _) :: _, _, ⟨a, b⟩, y => ⟨a, Prs.append b y⟩
  | [], _, _ :: _, _, x, _ => x.elim
  | _ :: _, _, [], _, x, _ => x.elim
theorem Prs.get {h : Heap} : ∀ {vs : List Value} {bs : List (Int × Bool)}, Prs h vs bs → ∀ {i : Nat} {p : Int × Bool}, bs[i]? = some p → ∃ t u m, vs[i]? = some (.ref t) ∧ h.get? t = some (tupO [.int p.1 u, .bool p.2] m)
  | [], [], _, _, _, e => by simp at e
  | v :: vs, (n, b) :: bs, ⟨⟨t, u, m, e1, e2⟩, r⟩, i, x, e => by
    cases i with
    | zero => rw [List.getElem?_cons_zero] at e; cases e; exact ⟨t, u, m, by rw [e1]; rfl, e2⟩
    | succ i => rw [List.getElem?_cons_succ] at e ⊢; exact Prs.get r e
  | [], _ :: _, x, _, _, _ => x.elim
  | _ :: _, [], x, _, _, _ => x.elim
theorem kd_entry_loop : entryFor table "dict.update.loop" = some Builtin.«dict.update.loop» := by first | exact entryFor_of_fast (by kernel_rfl) | exact entryFor_of_tree (by kernel_rfl)
theorem kd_plain_loop : plainId "dict.update.loop" = true := by decide +kernel
section
variable {prog : Program} {w : World} {A : Around} {E : Value → Shared → Prop} {s : Shared}
theorem kd_loop {R : Result → Shared → Prop} {l I d : Addr} {g : Heap} {vs : List Value} {ps : List (Int × Bool)} (hh : A.handled = none) (hl : g.IsList l vs.toArray) (hp : Prs g vs ps) (gI : g.get? I = none) (gd : g.get? d = none) (hne : I ≠ d) (hz : ps.length ≤ 100) :
    ∀ (k i : Nat) (s : Shared) (kvs : List (Int × Value)), ps.length - i = k → i ≤ ps.length → g.StaysIn s.heap → s.heap.IsListIter I l i → s.heap.DictOf (intKind prog w) d kvs → kvs.length ≤ i →
      (∀ h' k', (∀ b o, b ≠ I → b ≠ d → s.heap.get? b = some o → h'.get? b = some o) → h'.DictOf (intKind prog w) d ((ps.drop i).foldl (fun acc p => stored acc p.1 (.bool p.2)) kvs) → R (.ok (.ret .none)) { s with heap := h', toks := k' }) →
      codeAny (model prog w) A (.builtin "dict.update.loop" ⟨[.ref d, .ref I, .int i 0, .none], []⟩) R s := by
  have hlen := hp.length
  intro k
  induction k with
  | zero =>
    intro i s kvs hk hle hg hit hd hkl hR
    have hin : i = ps.length := by (first | exact omq240 _ _ _ hlen hk hle | omega)
    subst hin
    refine codeAny_builtin kd_entry_loop ?_
    rw [Around.under_plainId kd_plain_loop _]
    show wpAny _ A.in1 (pyNext (.ref I) >>= _) _ _ s
    refine wpAny_bind (wpAny_pyNext_list_end hh hit (stays_list hg hl) (by simp [hlen]) fun h' he => ?_)
    rw [List.drop_length] at hR
    exact wpAny_bind (wpAny_pure (wpAny_pure (hR h' _ (fun b o hb _ e => he b o hb e) (hd.extBut he (Ne.symm hne)))))
  | succ k ih =>
    intro i s kvs hk hle hg hit hd hkl hR
    have hlt : i < ps.length := by (first | exact omq241 _ _ _ _ hlen hk hle | omega)
    have hpi : ps[i]? = some ps[i] := List.getElem?_eq_getElem hlt
    obtain ⟨t, u, m, hv, ht⟩ := hp.get hpi
    refine codeAny_builtin kd_entry_loop ?_
    rw [Around.under_plainId kd_plain_loop _]
    show wpAny _ A.in1 (pyNext (.ref I) >>= _) _ _ s
    refine wpAny_bind (wpAny_pyNext_list_item (x := .ref t) hit (stays_list hg hl) (by simpa using hv) fun h' hit' hs => ?_)
    have g' : g.StaysIn h' := fun b o e => (hs.2 b (fun q => by rw [q, gI] at e; cases e)).trans (hg b o e)
    have ht' := g' _ _ ht
    have hd' : h'.DictOf (intKind prog w) d kvs := hd.extBut hs.extBut (Ne.symm hne)
    refine wpAny_bind (wpAny_holding (wpAny_bind (wpAny_tryCatch ?_)))
    unfold Builtin.Dict.pairItems
    refine wpAny_bind (wpAny_typeOf (T := "tuple") ⟨_, ht', rfl⟩ ?_)
    rw [if_pos (by decide)]
    refine wpAny_bind (wpAny_seqItems ht' rfl ?_)
    refine wpAny_pure ?_
    show wpAny _ _ (holding [.int ps[i].1 u, .bool ps[i].2] (dictSet d (.int ps[i].1 u) (.bool ps[i].2))) _ _ _
    refine wpAny_holding (wpAny_dictSet_pairs (knd := intKind prog w) (k := ps[i].1) (intKind_is prog w _ _) hd' (fun h2 hd2 hs2 => ?_) (by rw [sizeLine_eq]; (first | exact omq242 _ _ _ _ hz hlen hkl hlt | omega)))
    have g2 : g.StaysIn h2 := fun b o e => (hs2.2 b (fun q => by rw [q, gd] at e; cases e)).trans (g' b o e)
    have hst : (stored kvs ps[i].1 (.bool ps[i].2)).length ≤ i + 1 := by
      unfold stored
      split
      · rw [List.length_map]; (first | exact omq243 _ _ hkl | omega)
      · rw [List.length_append, List.length_singleton]; (first | exact omq244 _ _ hkl | omega)
    refine wpAny_pure ⟨plainId_quiet kd_plain_loop _, ih (i + 1) { s with heap := h2, toks := s.toks + 1 } _ (by (first | exact omq245 _ _ _ _ hlen hk hlt | omega)) hlt g2 (hit'.extBut hs2.extBut hne) hd2 hst fun h3 k3 hk3 hd3 => ?_⟩
    refine hR h3 k3 (fun b o hI hd e => hk3 b o hI hd ((hs2.2 b hd).trans ((hs.2 b hI).trans e))) ?_
    rw [List.drop_eq_getElem_cons hlt]
    exact hd3
theorem kd_dict {D : Addr} {vs : List Value} {k : Nat} {ps : List (Int × Bool)} {Q : Value → Shared → Prop} (hh : A.handled = none) (hx : s.heap.get? D = some (lstO vs k)) (hp : Prs s.heap vs ps) (hz : ps.length ≤ 100)
    (h : ∀ h' tk d, s.heap.objs.size ≤ d → s.heap.StaysIn h' → s.heap.get? d = none → h'.DictOf (intKind prog w) d (ps.foldl (fun acc p => stored acc p.1 (.bool p.2)) []) → Q (.ref d) { s with heap := h', toks := tk }) :
    wpAny (model prog w) A (call (.type "dict") [.ref D]) Q E s := by
  refine callType_codes (Q₁ := fun obj s₁ => obj = .ref s.heap.objs.size ∧ s₁ = { s with heap := s.heap.push { cls := .type "dict", data := .dict #[] } }) F.kt_called_dict (F.kt_typeCall_dict_1 _) F.entry_dict_init (kt_code_dict_new _ ⟨rfl, rfl⟩) ?_
  rintro obj s₁ ⟨rfl, rfl⟩
  have hnew : (s.heap.push { cls := .type "dict", data := .dict #[] }).DictOf (intKind prog w) s.heap.objs.size [] := Heap.DictOf.new s.heap
  have hl : (s.heap.push { cls := .type "dict", data := .dict #[] }).get? D = some (lstO vs k) := Heap.get?_push_of_some _ hx
  refine ⟨hnew.typeIs, F.args_dict_init_2 _ _, ?_⟩
  unfold Builtin.«dict.__init__»
  refine wpAny_bind ?_
  unfold Builtin.Dict.selfAndRest
  refine wpAny_bind (wpAny_notOrdered_dict hnew.typeIs ?_)
  show wpAny _ _ (pure (s.heap.objs.size, [Value.ref D])) _ _ _
  refine wpAny_pure ?_
  show wpAny _ _ (Builtin.Dict.updateFrom "dict.__init__" s.heap.objs.size (.ref D) [] .none) _ _ _
  unfold Builtin.Dict.updateFrom
  refine wpAny_bind (wpAny_typeOf (T := "list") ⟨_, hl, rfl⟩ ?_)
  rw [if_pos (by decide)]
  refine wpAny_bind (keys_none (show A.in1.in1.handled = none from hh) hl fun h' tk st => ?_)
  simp only [Option.isNone_none, if_true]
  have hl' := st _ _ hl
  have hL : h'.IsList D vs.toArray := ⟨_, hl', rfl, k, rfl⟩
  refine wpAny_bind (wpAny_rule ?_)
  refine wpAny_bind (wpAny_pyIter_list hL ?_)
  have ne0 : s.heap.objs.size ≠ h'.objs.size := Nat.ne_of_lt (Heap.lt_size (st _ { cls := .type "dict", data := .dict #[] } (Heap.get?_push_size _ rfl)))
  have hnew' : h'.DictOf (intKind prog w) s.heap.objs.size [] := (by obtain ⟨o, es, ep, e, r⟩ := hnew; exact ⟨o, es, ep, st _ _ e, r⟩)
  have k0 : s.heap.StaysIn h' := stays_trans (stays_push _) st
  refine wpAny_pure ⟨plainId_quiet kd_plain_loop _, kd_loop (g := s.heap) (vs := vs) (ps := ps) (show A.in1.handled = none from hh) (isL hx) hp ?_ (get_size _) (Ne.symm ne0) hz ps.length 0 _ [] rfl (Nat.zero_le _) (stays_trans k0 (stays_push _)) ⟨_, Heap.get?_push_size _ rfl, rfl, rfl⟩ (hnew'.push _) (Nat.zero_le _) fun h3 k3 hk3 hd3 => ?_⟩
  · cases q : s.heap.get? h'.objs.size with
    | none => rfl
    | some o => exact absurd (Heap.lt_size (k0 _ _ q)) (Nat.lt_irrefl _)
  · refine ⟨rfl, h h3 k3 _ (Nat.le_refl _) (fun b o e => hk3 b o ?_ ?_ (Heap.get?_push_of_some _ (k0 _ _ e))) (get_size _) hd3⟩
    · intro q; rw [q] at e; exact absurd (Heap.lt_size (k0 _ _ e)) (Nat.lt_irrefl _)
    · intro q; rw [q] at e; exact absurd (Heap.lt_size e) (Nat.lt_irrefl _)
end

/-! QL5 -/
open PySem.SeqAt
section
variable {prog : Program} {w : World} {A : Around} {Q E : Value → Shared → Prop} {s : Shared} 

noncomputable abbrev srcC (src : Addr) : List (Str × Option Value) := [("source", some (.ref src))]
noncomputable def GoodRow (n : Nat) (ring : Bool) (j : Nat) (r : PRow) : Prop := r.k ≤ 2 ∧ r.gs.length ≤ 2 ∧ (∀ g, g ∈ r.gs → 1 ≤ g ∧ g ≤ 4) ∧ r.c ≤ 3 ∧ (j + 1 < n → 1 ≤ r.c) ∧ (j + 1 = n → r.gs ≠ [] ∧ (ring = true → 1 ≤ r.c) ∧ (ring = false → r.c = 0))
/-- the law's source, p draws at most -/
noncomputable def SrcA (h : Heap) (p : Nat) (o : Obj) : Prop := ∃ ca cv cns kc rest place, h.get? ca = some (lstO cv kc) ∧ IntsAre cv cns ∧ 0 < cns.length ∧ cns.length < 1000 ∧ 0 ≤ rest ∧ place ≤ p ∧ SrcO ca rest place o
theorem SrcA.keep {h h' : Heap} {p : Nat} {o : Obj} (x : SrcA h p o) (k : h.StaysIn h') : SrcA h' p o :=
  (by obtain ⟨ca, cv, cns, kc, rest, place, e, r⟩ := x; exact ⟨ca, cv, cns, kc, rest, place, k _ _ e, r⟩)
theorem SrcA.le {h : Heap} {p q : Nat} {o : Obj} (x : SrcA h p o) (k : p ≤ q) : SrcA h q o :=
  (by obtain ⟨ca, cv, cns, kc, rest, place, e, r1, r2, r3, r4, r5, r6⟩ := x; exact ⟨ca, cv, cns, kc, rest, place, e, r1, r2, r3, r4, Nat.le_trans r5 k, r6⟩)
theorem SrcO.noCell {ca : Addr} {rest : Int} {place : Nat} {o : Obj} (x : SrcO ca rest place o) (v : Option Value) : o.data ≠ .cell v := (by obtain ⟨_, _, y⟩ := x; exact y.noCell v)
theorem SrcA.noCell {h : Heap} {p : Nat} {o : Obj} (x : SrcA h p o) (v : Option Value) : o.data ≠ .cell v := (by obtain ⟨_, _, _, _, _, _, _, _, _, _, _, _, y⟩ := x; exact y.noCell v)
theorem SrcA.cls {h : Heap} {p : Nat} {o : Obj} (x : SrcA h p o) : o.cls = .type "list" := (by obtain ⟨_, _, _, _, _, _, _, _, _, _, _, _, _, _, y⟩ := x; exact y.1)
/-- a draw -/
theorem take_st {h₀ : Heap} {L : Addr} {cl : List (Str × Addr)} {l : List (Str × Value)} {lc : List (Str × Option Value)} {pre post : List (Addr × Obj)} {src : Addr} {o : Obj} {p lim : Nat} {tl : Tok} (S : St w h₀ L cl l lc (pre ++ (src, o) :: post) s.heap) (hS : SrcA h₀ p o) (R : Rm A 2 10) (hp : p < 999) (hl0 : 0 < lim) (hl1 : lim < 1000)
    (hret : ∀ h' tk' o' v t, v < lim → SrcA h₀ (p + 1) o' → St w h₀ L cl l lc (pre ++ (src, o') :: post) h' → (∀ b x, b ∉ [src] → s.heap.get? b = some x → h'.get? b = some x) → Q (.int (v : Nat) t) { s with heap := h', toks := tk' }) :
    wpAny (model prog w) A (call (.ref 432) [.ref src, .int (lim : Int) tl]) Q E s := by
  obtain ⟨ca, cv, cns, kc, rest, place, e1, e2, e3, e4, e5, e6, e7⟩ := hS
  have pK := S.nw (src, o) (by simp)
  have kW : h₀.StaysIn (hideAll s.heap [src]) := fun b x e => hideAll_get _ (S.base e) (fun q => by rw [List.mem_singleton.mp q, pK.2.2] at e; cases e)
  exact law_take pK.1 e7 (S.wd.keeps kW) R (kW _ _ e1) e2 e3 e4 e5 (by (first | exact omq246 _ _ hp e6 | omega)) hl0 hl1 fun h' tk' o' rest' v t hv hS' hr' kk e =>
    hret _ _ o' v t hv ⟨ca, cv, cns, kc, rest', place + 1, e1, e2, e3, e4, hr', by (first | exact omq244 _ _ e6 | omega), hS'⟩ (S.turn e7.noCell kk e) kk

theorem ints_one (t : Tok) : IntsAre [Value.int 1 t] (List.map (fun g : Nat => ((g : Nat) : Int)) [1]) := .cons (1 : Int) t .nil
theorem good_one {n : Nat} {ring : Bool} {i c k : Nat} (hk : k ≤ 2) (hc : c ≤ 3) (h1 : i + 1 < n → 1 ≤ c) (h2 : ring = true → 1 ≤ c) (h3 : ring = false → c = 0) : GoodRow n ring i ⟨c, [1], k⟩ :=
  ⟨hk, Nat.le_succ 1, (fun g hg => by rw [List.mem_singleton.mp hg]; decide), hc, h1, fun _ => ⟨(fun q => nomatch q), h2, h3⟩⟩
theorem good_snoc {n : Nat} {ring : Bool} {i : Nat} {rs : List PRow} {r : PRow} (h : ∀ j r, rs[j]? = some r → GoodRow n ring j r) (hl : rs.length = i) (hr : GoodRow n ring i r) : ∀ j r', (rs ++ [r])[j]? = some r' → GoodRow n ring j r' := by
  intro j r' e
  by_cases q : j < rs.length
  · rw [List.getElem?_append_left q] at e; exact h j r' e
  · rw [List.getElem?_append_right (by (first | exact omq247 _ _ _ hl q | omega))] at e
    have : j - rs.length = 0 := by
      have := (List.getElem?_eq_some_iff.mp e).1
      simp at this; (first | exact omq248 _ _ this | omega)
    rw [this] at e
    cases e
    rw [show j = i by (first | exact omq249 _ _ _ hl q this | omega)]; exact hr
theorem states_ok {ps : List (Int × Bool)} (h : ps.map (·.1) = (List.range 4).map fun j => 1 + ((j : Nat) : Int)) : ∃ st : Nat → Bool, ∀ g : Nat, 1 ≤ g → g ≤ 4 → valueAt (ps.foldl (fun acc p => stored acc p.1 (.bool p.2)) []) (g : Int) = some (.bool (st g)) := by
  have hpl : ps.length = 4 := by simpa using congrArg List.length h
  obtain ⟨⟨x1, b1⟩, ⟨x2, b2⟩, ⟨x3, b3⟩, ⟨x4, b4⟩, rfl⟩ : ∃ a b c d, ps = [a, b, c, d] := by
    match ps, hpl with
    | [a, b, c, d], _ => exact ⟨a, b, c, d, rfl⟩
  have h2 : [x1, x2, x3, x4] = [1, 2, 3, 4] := h
  simp only [List.cons.injEq, and_true] at h2
  obtain ⟨rfl, rfl, rfl, rfl⟩ := h2
  refine ⟨fun g => if g = 1 then b1 else if g = 2 then b2 else if g = 3 then b3 else b4, fun g g1 g4 => ?_⟩
  rcases (by (first | exact omq250 _ g1 g4 | omega) : g = 1 ∨ g = 2 ∨ g = 3 ∨ g = 4) with rfl | rfl | rfl | rfl <;> simp [stored, valueAt]

end
namespace law_planC
noncomputable abbrev V := Program × World × Around × (Value → Shared → Prop) × (Value → Shared → Prop) × Shared × Addr
noncomputable def P (prog : Program) (w : World) (A : Around) (Q : Value → Shared → Prop) (E : Value → Shared → Prop) (s : Shared) (src : Addr) : Prop := ∀ {o : Obj} (ho : s.heap.get? src = some o) (hS : SrcA (hideAll s.heap [src]) 0 o) (W : Wd w (hideAll s.heap [src])) (R : Rm A 6 30) (hret : ∀ h' tk' o' h0 t P sd vs kp rs ring (fs : Int → Option Value) (st : Nat → Bool) m, (∀ b x, b ∉ [src] → s.heap.get? b = some x → h'.get? b = some x) → h'.get? src = some o' → (hideAll s.heap [src]).StaysIn h0 → h0.StaysIn h' → h0.get? src = none →
      (newer (hideAll s.heap [src]) h0).get? t = some (tupO [.ref P, .ref sd, .bool ring] m) → (newer (hideAll s.heap [src]) h0).get? P = some (lstO vs kp) → PlanIs (newer (hideAll s.heap [src]) h0) vs rs →
      0 < rs.length → rs.length ≤ 23 → (∀ j r, rs[j]? = some r → GoodRow rs.length ring j r) → (newer (hideAll s.heap [src]) h0).MapOf (intKind prog w) sd fs → (sd == sysModules) = false → (∀ g : Nat, 1 ≤ g → g ≤ 4 → fs (g : Int) = some (.bool (st g))) →
      Q (.ref t) { s with heap := h', toks := tk' }), wpAny (model prog w) A (call (.ref 437) [.ref src]) Q E s
noncomputable def wc : V := worst (α := V) (default, Cx.one.w, {}, fun _ _ => True, fun _ _ => True, Cx.one.s, (0 : Nat)) (fun _ : V => (0 : Nat)) fun v => P v.1 v.2.1 v.2.2.1 v.2.2.2.1 v.2.2.2.2.1 v.2.2.2.2.2.1 v.2.2.2.2.2.2
noncomputable def prog : Program := wc.1
noncomputable def w : World := wc.2.1
noncomputable def A : Around := wc.2.2.1
noncomputable def Q : Value → Shared → Prop := wc.2.2.2.1
noncomputable def E : Value → Shared → Prop := wc.2.2.2.2.1
noncomputable def s : Shared := wc.2.2.2.2.2.1
noncomputable def src : Addr := wc.2.2.2.2.2.2
theorem at_c {o : Obj} (ho : s.heap.get? src = some o) (hS : SrcA (hideAll s.heap [src]) 0 o) (W : Wd w (hideAll s.heap [src])) (R : Rm A 6 30) (hret : ∀ h' tk' o' h0 t P sd vs kp rs ring (fs : Int → Option Value) (st : Nat → Bool) m, (∀ b x, b ∉ [src] → s.heap.get? b = some x → h'.get? b = some x) → h'.get? src = some o' → (hideAll s.heap [src]).StaysIn h0 → h0.StaysIn h' → h0.get? src = none →
      (newer (hideAll s.heap [src]) h0).get? t = some (tupO [.ref P, .ref sd, .bool ring] m) → (newer (hideAll s.heap [src]) h0).get? P = some (lstO vs kp) → PlanIs (newer (hideAll s.heap [src]) h0) vs rs →
      0 < rs.length → rs.length ≤ 23 → (∀ j r, rs[j]? = some r → GoodRow rs.length ring j r) → (newer (hideAll s.heap [src]) h0).MapOf (intKind prog w) sd fs → (sd == sysModules) = false → (∀ g : Nat, 1 ≤ g → g ≤ 4 → fs (g : Int) = some (.bool (st g))) →
      Q (.ref t) { s with heap := h', toks := tk' }) : wpAny (model prog w) A (call (.ref 437) [.ref src]) Q E s := by
  refine' enterC (news := [(src, o)]) [] (srcC src) ?hn ?hnd ?W ?ho ?hcd ?hroom ?hb ?hk1 ?hl ?hc ?_ ?c1 ?c2 ?c3
  (case hn => intro p hp; rw [List.mem_singleton.mp hp]; exact ho)
  (case hnd => simp)
  (case W => exact W)
  (case ho => k_is)
  (case hcd => k_is)
  (case hroom => exact Rm.room (by assumption))
  (case hb => exact rfl)
  (case hk1 => exact rfl)
  (case hl => exact trivial)
  (case hc => exact ⟨⟨⟨_, rfl⟩, rfl⟩, trivial⟩)
  (case c1 => exact rfl)
  (case c2 => exact rfl)
  (case c3 => exact rfl)
  intro h₁ tk₁ S k₁
  replace S : St w (hideAll s.heap [src]) _ _ _ _ _ _ := S
  generalize hg : hideAll s.heap [src] = g0 at W hS S hret
  have gsrc : g0.get? src = none := (S.nw _ (.head _)).2.2
  repeat (walk_at "st")
  rename St _ _ _ _ _ _ _ _ => S
  refine take_st (pre := []) (post := []) (lim := 23) S hS R.dp (by decide) (by decide) (by decide) fun h' tk' o1 n1 t1 hn1 hS1 S kk => ?_
  repeat (walk_at "st")
  rename St _ _ _ _ _ _ _ _ => S
  refine take_st (pre := []) (post := []) (lim := 8) S hS1 R.dp (by decide) (by decide) (by decide) fun h' tk' o2 n2 t2 hn2 hS2 S kk => ?_
  repeat (walk_at "st")
  rename St _ _ _ _ _ _ _ _ => S
  refine rUnpItems S (show A.handled = none from R.hh) (S.new (.head _)) rfl fun h5 k5 S => ?_
  replace S := S.tail
  show wpAny _ _ (assignInOrder [bindName _ "is_ring", bindName _ "length"] [.bool ((n2 : Int) == 0), .int (1 + (n1 : Int)) _]) _ _ _
  generalize hring : ((n2 : Int) == 0) = ring
  repeat (walk_at "st")
  rename St _ _ _ _ _ _ _ _ => S
  refine rLC [("source", _)] ?_
  repeat (walk_at "st")
  rename St _ _ _ _ _ _ _ _ => S
  refine call_range_2 ?_
  have S := S.keeps (stays_push { cls := .type "range", data := .fields #[.int 1 (tk' + 1 + 1 + 1), .int 5 (tk' + 1 + 1 + 1 + 1), .int 1 (tk' + 1 + 1 + 1 + 1 + 1)] })
  refine lcRange (n := 4) (fun i h₀' lc' news' acc => lc' = srcC src ∧ ∃ o' ps, news' = [(src, o')] ∧ SrcA h₀' (2 + i) o' ∧ Prs h₀' acc ps ∧ ps.map (·.1) = (List.range i).map fun j => 1 + ((j : Nat) : Int)) S R.hh (IsRange.new _ _ _ _ _ _ _) (by rw [rangeSize_one]; decide) (by decide) (by decide) ⟨rfl, o2, [], rfl, hS2, trivial, rfl⟩ ?_ ?_
  · intro i t h₀' lc' news' h4 tk4 I oI C' D oL kD acc hled hi k4 hJ S
    obtain ⟨rfl, o', ps, rfl, hS', hps, hpm⟩ := hJ
    repeat (walk_at "st")
    rename St _ _ _ _ _ _ _ _ => S
    refine take_st (pre := [(I, oI), (D, lstO acc kD), (s.heap.objs.size, oL)]) (post := []) (lim := 2) S hS' R.dp (by (first | exact omq251 _ hi | omega)) (by decide) (by decide) fun h' tk' o3 v t3 hv hS3 S kk => ?_
    repeat (walk_at "st")
    rename St _ _ _ _ _ _ _ _ => S
    obtain ⟨S', kz, ht⟩ := S.still (fun v q => nomatch q)
    refine ⟨_, _, [(src, o3)], _, _, rfl, kz, ⟨rfl, o3, ps ++ [(1 + (i : Int), (v : Int) == 0)], rfl, hS3.keep kz, (hps.keep kz).append ⟨⟨_, _, _, rfl, ht⟩, trivial⟩, ?_⟩, S'⟩
    rw [List.map_append, hpm, List.range_succ, List.map_append]
    rfl
  · intro h₀' lc' news' h4 tk4 C' D oC kD acc m' hJ hlen' k4 S hn
    obtain ⟨rfl, o', ps, rfl, hS', hps, hpm⟩ := hJ
    refine fin0 S hn fun h5 S => ?_
    repeat (walk_at "st")
    rename St _ _ _ _ _ _ _ _ => S
    have hpl : ps.length = 4 := by simpa using congrArg List.length hpm
    refine kd_dict R.hh (S.new (.head _)) (hps.keep S.out) (by (first | exact omq252 _ hpl | omega)) fun h' tk sd hle k hsn hsd => ?_
    obtain ⟨h1, S1, k1, kN⟩ := S.tail.adopt k
    have hsd1 : (newer g0 h1).MapOf (intKind prog w) sd (valueAt (ps.foldl (fun acc p => stored acc p.1 (.bool p.2)) [])) := by
      refine Heap.DictOf.mapOf ?_
      obtain ⟨o, es, ep, e, r⟩ := hsd
      exact ⟨o, es, ep, newer_get (kN _ _ (newer_get e hsn)) (fresh_of_stays (stays_trans k4 S.out) hsn), r⟩
    have losd : (sd == sysModules) = false := by
      have := Heap.lt_size (get59 S.kin)
      rw [beq_eq_false_iff_ne]
      intro q
      rw [q] at hle
      exact absurd (Nat.lt_of_lt_of_le this hle) (by decide)
    obtain ⟨st, hst⟩ := states_ok hpm
    generalize valueAt (ps.foldl (fun acc p => stored acc p.1 (.bool p.2)) []) = fs at hsd1 hst
    replace hS' := hS'.keep k1
    clear S
    repeat (walk_at "st")
    rename St _ _ _ _ _ _ _ _ => S
    refine rLCA [("source", _)] ?_
    repeat (walk_at "st")
    rename St _ _ _ _ _ _ _ _ => S
    refine call_range_1 ?_
    refine lcRange (n := n1 + 1) (a := 0) (fun i h₀' lc' news' acc => lc' = srcC src ∧ ∃ o' ms, news' = [(src, o')] ∧ SrcA h₀' (6 + i) o' ∧ IntsAre acc (ms.map fun m : Nat => (m : Int)) ∧ (∀ m, m ∈ ms → 1 ≤ m ∧ m ≤ 3) ∧ ms.length = i) (S.keeps (stays_push _)) R.hh (IsRange.new _ _ _ _ _ _ _) (by rw [rangeSize_one]; split <;> (first | exact omq253 _ | exact omq254 _ hn1 (by assumption) | omega)) ⟨by decide, by (first | exact omq255 _ hn1 | omega)⟩ (by rw [sizeLine_eq]; (first | exact omq256 _ hn1 | omega)) ⟨rfl, o', [], rfl, hS', .nil, (fun m hm => nomatch hm), rfl⟩ ?_ ?_
    · intro i t h₀'' lc' news' h4 tk4 I oI C' D oL kD acc hled hi k4 hJ S
      obtain ⟨rfl, o', ms, rfl, hS', hia, hms, hml⟩ := hJ
      repeat (walk_at "st")
      rename St _ _ _ _ _ _ _ _ => S
      refine take_st (pre := [(I, oI), (D, lstO acc kD), (s.heap.objs.size, oL)]) (post := []) (lim := 3) S hS' R.dp (by (first | exact omq257 _ _ _ hn1 hi hml | omega)) (by decide) (by decide) fun h' tk' o3 v t3 hv hS3 S kk => ?_
      repeat (walk_at "st")
      rw [show (1 : Int) + (v : Int) = ((1 + v : Nat) : Int) by (first | exact omq258 _ | omega)]
      refine ⟨_, _, [(src, o3)], _, _, rfl, stays_refl, ⟨rfl, o3, ms ++ [1 + v], rfl, hS3, ?_, ?_, ?_⟩, S⟩
      · rw [List.map_append]; exact hia.append (.cons _ _ .nil)
      · intro m hm
        rcases List.mem_append.mp hm with hm | hm
        · exact hms m hm
        · rw [List.mem_singleton.mp hm]; (first | exact omq259 _ hv | omega)
      · rw [List.length_append, hml]; rfl
    · intro h₀'' lc' news' h4 tk4 C' D oC kD acc m' hJ hlen' k4' S hn
      obtain ⟨rfl, o', ms, rfl, hS', hia, hms, hml⟩ := hJ
      refine fin1 (y := "copies") S hn ⟨rfl, rfl, rfl, rfl⟩ rfl fun h5 S => ?_
      obtain ⟨S5, kz5, hD⟩ := S.still (fun v q => nomatch q)
      clear S
      replace hS' := hS'.keep kz5
      have hsd2 := mapKeep hsd1 (newer_mono (g := g0) (stays_trans k4' kz5))
      have kg : g0.StaysIn h1 := stays_trans k4 k1
      have kg2 := stays_trans kg (stays_trans k4' kz5)
      clear hsd1 k4' k1 k4 kg
      generalize hideAll h5 _ = h₅ at S5 kz5 hD hS' hsd2 kg2
      repeat (walk_at "st")
      rename St _ _ _ _ _ _ _ _ => S
      rename Addr => aP
      have eN : (1 : Int) + (n1 : Int) = ((n1 + 1 : Nat) : Int) := by (first | exact omq260 _ | omega)
      rw [eN] at S ⊢
      refine forRange (n := n1 + 1) (fun i h₀' l lc news => lc = srcC src ∧ ∃ o' vs k rs t, news = [(aP, lstO vs k), (src, o')] ∧ h₅.StaysIn h₀' ∧ SrcA h₀' (30 + 4 * i) o' ∧ Sub l [("copies", .ref D), ("states", .ref sd), ("is_ring", .bool ring), ("length", .int ((n1 + 1 : Nat) : Int) t), ("plan", .ref aP)] ∧ PlanIs (newer g0 h₀') vs rs ∧ rs.length = i ∧ ∀ j r, rs[j]? = some r → GoodRow (n1 + 1) ring j r)
        S R.hh (by (first | exact omq261 _ _ _ hn1 hlen' hml | omega)) ⟨rfl, o', [], 0, [], _, rfl, stays_refl, hS'.le (by (first | exact omq262 _ _ _ hn1 hlen' hml | omega)), ⟨rfl, rfl, rfl, rfl, rfl, trivial⟩, trivial, rfl, (fun j r e => by simp at e)⟩ ?_ ?_
      · intro i t h₀' l lc news h6 tk6 I oI hof hi hJ S
        obtain ⟨rfl, o', vs', kv, rs, tl, rfl, kk5, hS', hsub, hpl, hrl, hgood⟩ := hJ
        replace S := S.names hsub
        repeat (walk_at "st")
        rename St _ _ _ _ _ _ _ _ => S
        refine rLCA [("source", _)] ?_
        repeat (walk_at "st")
        rename St _ _ _ _ _ _ _ _ => S
        refine take_st (pre := [(I, oI), (aP, lstO vs' kv)]) (post := []) (lim := 3) S hS' R.dp (by (first | exact omq263 _ _ _ _ _ hn1 hlen' hml hi hrl | omega)) (by decide) (by decide) fun h' tk' o3 v t3 hv hS3 S kk => ?_
        repeat (walk_at "st")
        rename St _ _ _ _ _ _ _ _ => S
        refine call_range_1 ?_
        refine lcRange (n := v) (a := 0) (fun i' h₀' lc' news' acc => lc' = srcC src ∧ ∃ o' ms, news' = [(I, oI), (aP, lstO vs' kv), (src, o')] ∧ SrcA h₀' (30 + 4 * i + 1 + i') o' ∧ IntsAre acc (ms.map fun m : Nat => (m : Int)) ∧ (∀ m, m ∈ ms → 1 ≤ m ∧ m ≤ 4) ∧ ms.length = i') (S.keeps (stays_push _)) R.hh (IsRange.new _ _ _ _ _ _ _) (by rw [rangeSize_one]; split <;> (first | exact omq17 _ | exact omq264 _ hv (by assumption) | omega)) ⟨by decide, by (first | exact omq265 _ hv | omega)⟩ (by rw [sizeLine_eq]; (first | exact omq266 _ hv | omega)) ⟨rfl, o3, [], rfl, hS3, .nil, (fun m hm => nomatch hm), rfl⟩ ?_ ?_
        · intro i' t h₀'' lc' news' h4 tk4 I' oI' C' D' oL kD' acc' hled hi' k4 hJ S
          obtain ⟨rfl, o', ms, rfl, hS', hia, hms, hml⟩ := hJ
          repeat (walk_at "st")
          rename St _ _ _ _ _ _ _ _ => S
          refine take_st (pre := [(I', oI'), (D', lstO acc' kD'), (s.heap.objs.size, oL), (I, oI), (aP, lstO vs' kv)]) (post := []) (lim := 4) S hS' R.dp (by (first | exact omq267 _ _ _ _ _ _ _ _ hn1 hlen' (by assumption) hi hrl hv hi' hml | omega)) (by decide) (by decide) fun h' tk' o3 v t3 hv hS3 S kk => ?_
          repeat (walk_at "st")
          rw [show (1 : Int) + (v : Int) = ((1 + v : Nat) : Int) by (first | exact omq258 _ | omega)]
          refine ⟨_, _, [(I, oI), (aP, lstO vs' kv), (src, o3)], _, _, rfl, stays_refl, ⟨rfl, o3, ms ++ [1 + v], rfl, hS3, ?_, ?_, ?_⟩, S⟩
          · rw [List.map_append]; exact hia.append (.cons _ _ .nil)
          · intro m hm
            rcases List.mem_append.mp hm with hm | hm
            · exact hms m hm
            · rw [List.mem_singleton.mp hm]; (first | exact omq268 _ hv | omega)
          · rw [List.length_append, hml]; rfl
        · intro h₀'' lc' news' h4 tk4 C' Dg oC kg kg0 m' hJ hlen' k4' S hn
          obtain ⟨rfl, o', gs, rfl, hS', hgi, hgs, hgl⟩ := hJ
          refine fin1 (y := "groups") S hn ⟨rfl, rfl, rfl, rfl⟩ rfl fun h7 S => ?_
          have gDg : g0.get? Dg = none := fresh_of_stays (stays_trans kg2 (stays_trans kk5 k4')) (S.nw _ (.head _)).2.2
          obtain ⟨S7, kz7, hDg⟩ := S.still (fun v q => nomatch q)
          clear S
          replace hS' := hS'.keep kz7
          have k57 := stays_trans kk5 (stays_trans k4' kz7)
          replace hpl := hpl.keep (newer_mono (stays_trans k4' kz7))
          clear kk5 k4' kz7
          generalize hideAll h7 _ = h₇ at S7 hDg hS' hpl k57
          repeat (walk_at "st")
          have hcp : ∃ (m : Nat) (tm : Tok), acc[i]? = some (.int (m : Int) tm) ∧ 1 ≤ m ∧ m ≤ 3 := by
            obtain ⟨v, hv⟩ : ∃ v, acc[i]? = some v := ⟨_, List.getElem?_eq_getElem (by rw [hia.length, List.length_map]; (first | exact omq269 _ _ _ _ _ (by assumption) hml hi hrl | omega))⟩
            obtain ⟨n, tn, rfl, hn⟩ := IntsAre.at hia _ _ hv
            rw [List.getElem?_map] at hn
            obtain ⟨m, hm, rfl⟩ := Option.map_eq_some_iff.mp hn
            exact ⟨m, tn, hv, hms m (List.mem_of_getElem? hm)⟩
          obtain ⟨cm, tcm, hcm, cm1, cm3⟩ := hcp
          have hv3 : gs.length ≤ 2 := by (first | exact omq270 _ _ _ hv hlen' hgl | omega)
          by_cases hlast : i = n1
          · refine ite_pos (by rw [beq_iff_eq]; (first | exact omq271 _ _ _ _ _ (by assumption) hml hrl hlast | omega)) ?_
            repeat (walk_at "st")
            rename St _ _ _ _ _ _ _ _ => S
            refine rMApp (S.new (.tail _ (.head _))) ?_
            cases ring with
            | true =>
              repeat (walk_at "st")
              rename St _ _ _ _ _ _ _ _ => S
              refine rItemL (S.base (k57 _ _ hD)) (by (first | exact omq272 _ _ _ _ _ hn1 (by assumption) hml hrl hlast | omega)) (by (first | exact omq273 _ _ _ _ _ hn1 (by assumption) hml hrl hlast | omega)) (by simpa using hcm) ?_
              repeat (walk_at "st")
              rename St _ _ _ _ _ _ _ _ => S
              refine cmp_ofNotEq ?_
              by_cases hge : gs = []
              · have hkg : kg0 = [] := List.length_eq_zero_iff.mp (by rw [hgi.length, hge]; rfl)
                have hDg2 : h₇.get? Dg = some (lstO [] kg) := by rw [hDg, hkg]
                refine RcNeAt.lists (items := #[]) (e := fun _ => true) (isL (S.base hDg2)) (isL (S.new (.head _))) rfl (R.dp (d' := 0) (u' := 0)).units (fun j h1 _ => absurd h1 (Nat.not_lt_zero _)) prog w _ _ ?_
                repeat (walk_at "st")
                refine ite_neg (by simp) ?_
                repeat (walk_at "st")
                rename St _ _ _ _ _ _ _ _ => S
                rename Addr => c1
                replace S := S.snd
                have gc := fresh_of_stays (stays_trans kg2 k57) (S.nw _ (.head _)).2.2
                obtain ⟨h₉, S9, kz9, hc1⟩ := S.rest (fun v q => nomatch q)
                clear S
                replace hS' := hS'.keep kz9
                replace hpl := hpl.keep (newer_mono kz9)
                replace k57 := stays_trans k57 kz9
                repeat (walk_at "st")
                rename St _ _ _ _ _ _ _ _ => S
                refine take_st (pre := [(I, oI), (aP, lstO vs' kv)]) (post := []) (lim := 3) S hS' R.dp (by (first | exact omq274 _ _ _ _ _ _ _ _ hn1 (by assumption) hml hrl hv hlen' hgl hlast | omega)) (by decide) (by decide) fun h' tk' o4 kq t4 hkq hS4 S kk => ?_
                repeat (walk_at "st")
                rename St _ _ _ _ _ _ _ _ => S
                have gt := fresh_of_stays (stays_trans kg2 k57) (S.nw _ (.head _)).2.2
                obtain ⟨h₈, S8, kz8, ht8⟩ := S.rest (fun v q => nomatch q)
                clear S
                refine rApp (pre := [(I, oI)]) (post := [(src, o4)]) S8 (by rw [sizeLine_eq, hpl.length]; (first | exact omq275 _ _ _ _ _ hn1 (by assumption) hml hrl hlast | omega)) fun h' k' S => ?_
                repeat (walk_at "st")
                rename St _ _ _ _ _ _ _ _ => S
                refine ⟨_, _, _, _, _, _, rfl, ⟨rfl, o4, _, _, rs ++ [⟨cm, [1], kq⟩], _, rfl, stays_trans k57 kz8, (hS4.keep kz8).le (by (first | exact omq276 _ _ _ _ hv hlen' hgl | omega)), ⟨rfl, rfl, rfl, rfl, rfl, trivial⟩, (hpl.keep (newer_mono kz8)).append (us := [_]) (ts := [⟨cm, [1], kq⟩]) ⟨⟨_, c1, _, _, _, _, _, rfl, newer_get ht8 gt, newer_get (kz8 _ _ hc1) gc, ints_one _⟩, trivial⟩, by rw [List.length_append, hrl]; rfl, good_snoc hgood hrl (good_one (n := n1 + 1) (ring := true) (Nat.le_of_lt_succ hkq) cm3 (fun _ => cm1) (fun _ => cm1) (fun q => Bool.noConfusion q))⟩, S⟩
              · have hkg : kg0.length ≠ 0 := by rw [hgi.length, List.length_map]; intro q; exact hge (List.length_eq_zero_iff.mp q)
                refine RcNeAt.lists_lengths (isL (S.base hDg)) (isL (S.new (.head _))) (by simpa using hkg) (R.dp (d' := 0) (u' := 0)).units prog w _ _ ?_
                replace S := S.tail
                repeat (walk_at "st")
                rename St _ _ _ _ _ _ _ _ => S
                refine take_st (pre := [(I, oI), (aP, lstO vs' kv)]) (post := []) (lim := 3) S hS' R.dp (by (first | exact omq274 _ _ _ _ _ _ _ _ hn1 (by assumption) hml hrl hv hlen' hgl hlast | omega)) (by decide) (by decide) fun h' tk' o4 kq t4 hkq hS4 S kk => ?_
                repeat (walk_at "st")
                rename St _ _ _ _ _ _ _ _ => S
                have gt := fresh_of_stays (stays_trans kg2 k57) (S.nw _ (.head _)).2.2
                obtain ⟨h₈, S8, kz8, ht8⟩ := S.rest (fun v q => nomatch q)
                clear S
                refine rApp (pre := [(I, oI)]) (post := [(src, o4)]) S8 (by rw [sizeLine_eq, hpl.length]; (first | exact omq275 _ _ _ _ _ hn1 (by assumption) hml hrl hlast | omega)) fun h' k' S => ?_
                repeat (walk_at "st")
                rename St _ _ _ _ _ _ _ _ => S
                refine ⟨_, _, _, _, _, _, rfl, ⟨rfl, o4, _, _, rs ++ [⟨cm, gs, kq⟩], _, rfl, stays_trans k57 kz8, (hS4.keep kz8).le (by (first | exact omq276 _ _ _ _ hv hlen' hgl | omega)), ⟨rfl, rfl, rfl, rfl, rfl, trivial⟩, (hpl.keep (newer_mono kz8)).append (us := [_]) (ts := [⟨cm, gs, kq⟩]) ⟨⟨_, Dg, _, _, _, _, _, rfl, newer_get ht8 gt, newer_get (kz8 _ _ hDg) gDg, hgi⟩, trivial⟩, by rw [List.length_append, hrl]; rfl, good_snoc hgood hrl ⟨Nat.le_of_lt_succ hkq, hv3, hgs, cm3, fun _ => cm1, fun _ => ⟨hge, fun _ => cm1, fun q => nomatch q⟩⟩⟩, S⟩
            | false =>
              repeat (walk_at "st")
              rename St _ _ _ _ _ _ _ _ => S
              refine cmp_ofNotEq ?_
              by_cases hge : gs = []
              · have hkg : kg0 = [] := List.length_eq_zero_iff.mp (by rw [hgi.length, hge]; rfl)
                have hDg2 : h₇.get? Dg = some (lstO [] kg) := by rw [hDg, hkg]
                refine RcNeAt.lists (items := #[]) (e := fun _ => true) (isL (S.base hDg2)) (isL (S.new (.head _))) rfl (R.dp (d' := 0) (u' := 0)).units (fun j h1 _ => absurd h1 (Nat.not_lt_zero _)) prog w _ _ ?_
                repeat (walk_at "st")
                refine ite_neg (by simp) ?_
                repeat (walk_at "st")
                rename St _ _ _ _ _ _ _ _ => S
                rename Addr => c1
                replace S := S.snd
                have gc := fresh_of_stays (stays_trans kg2 k57) (S.nw _ (.head _)).2.2
                obtain ⟨h₉, S9, kz9, hc1⟩ := S.rest (fun v q => nomatch q)
                clear S
                replace hS' := hS'.keep kz9
                replace hpl := hpl.keep (newer_mono kz9)
                replace k57 := stays_trans k57 kz9
                repeat (walk_at "st")
                rename St _ _ _ _ _ _ _ _ => S
                refine take_st (pre := [(I, oI), (aP, lstO vs' kv)]) (post := []) (lim := 3) S hS' R.dp (by (first | exact omq274 _ _ _ _ _ _ _ _ hn1 (by assumption) hml hrl hv hlen' hgl hlast | omega)) (by decide) (by decide) fun h' tk' o4 kq t4 hkq hS4 S kk => ?_
                repeat (walk_at "st")
                rename St _ _ _ _ _ _ _ _ => S
                have gt := fresh_of_stays (stays_trans kg2 k57) (S.nw _ (.head _)).2.2
                obtain ⟨h₈, S8, kz8, ht8⟩ := S.rest (fun v q => nomatch q)
                clear S
                refine rApp (pre := [(I, oI)]) (post := [(src, o4)]) S8 (by rw [sizeLine_eq, hpl.length]; (first | exact omq275 _ _ _ _ _ hn1 (by assumption) hml hrl hlast | omega)) fun h' k' S => ?_
                repeat (walk_at "st")
                rename St _ _ _ _ _ _ _ _ => S
                refine ⟨_, _, _, _, _, _, rfl, ⟨rfl, o4, _, _, rs ++ [⟨0, [1], kq⟩], _, rfl, stays_trans k57 kz8, (hS4.keep kz8).le (by (first | exact omq276 _ _ _ _ hv hlen' hgl | omega)), ⟨rfl, rfl, rfl, rfl, rfl, trivial⟩, (hpl.keep (newer_mono kz8)).append (us := [_]) (ts := [⟨0, [1], kq⟩]) ⟨⟨_, c1, _, _, _, _, _, rfl, newer_get ht8 gt, newer_get (kz8 _ _ hc1) gc, ints_one _⟩, trivial⟩, by rw [List.length_append, hrl]; rfl, good_snoc hgood hrl (good_one (n := n1 + 1) (ring := false) (Nat.le_of_lt_succ hkq) (Nat.zero_le _) (fun q => absurd q (by (first | exact omq277 _ _ _ _ _ (by assumption) hml hrl hlast q | omega))) (fun q => Bool.noConfusion q) (fun _ => rfl))⟩, S⟩
              · have hkg : kg0.length ≠ 0 := by rw [hgi.length, List.length_map]; intro q; exact hge (List.length_eq_zero_iff.mp q)
                refine RcNeAt.lists_lengths (isL (S.base hDg)) (isL (S.new (.head _))) (by simpa using hkg) (R.dp (d' := 0) (u' := 0)).units prog w _ _ ?_
                replace S := S.tail
                repeat (walk_at "st")
                rename St _ _ _ _ _ _ _ _ => S
                refine take_st (pre := [(I, oI), (aP, lstO vs' kv)]) (post := []) (lim := 3) S hS' R.dp (by (first | exact omq274 _ _ _ _ _ _ _ _ hn1 (by assumption) hml hrl hv hlen' hgl hlast | omega)) (by decide) (by decide) fun h' tk' o4 kq t4 hkq hS4 S kk => ?_
                repeat (walk_at "st")
                rename St _ _ _ _ _ _ _ _ => S
                have gt := fresh_of_stays (stays_trans kg2 k57) (S.nw _ (.head _)).2.2
                obtain ⟨h₈, S8, kz8, ht8⟩ := S.rest (fun v q => nomatch q)
                clear S
                refine rApp (pre := [(I, oI)]) (post := [(src, o4)]) S8 (by rw [sizeLine_eq, hpl.length]; (first | exact omq275 _ _ _ _ _ hn1 (by assumption) hml hrl hlast | omega)) fun h' k' S => ?_
                repeat (walk_at "st")
                rename St _ _ _ _ _ _ _ _ => S
                refine ⟨_, _, _, _, _, _, rfl, ⟨rfl, o4, _, _, rs ++ [⟨0, gs, kq⟩], _, rfl, stays_trans k57 kz8, (hS4.keep kz8).le (by (first | exact omq276 _ _ _ _ hv hlen' hgl | omega)), ⟨rfl, rfl, rfl, rfl, rfl, trivial⟩, (hpl.keep (newer_mono kz8)).append (us := [_]) (ts := [⟨0, gs, kq⟩]) ⟨⟨_, Dg, _, _, _, _, _, rfl, newer_get ht8 gt, newer_get (kz8 _ _ hDg) gDg, hgi⟩, trivial⟩, by rw [List.length_append, hrl]; rfl, good_snoc hgood hrl ⟨Nat.le_of_lt_succ hkq, hv3, hgs, Nat.zero_le _, fun q => absurd q (by (first | exact omq277 _ _ _ _ _ (by assumption) hml hrl hlast q | omega)), fun _ => ⟨hge, (fun q => nomatch q), fun _ => rfl⟩⟩⟩, S⟩
          · refine ite_neg (by rw [beq_iff_eq]; (first | exact omq278 _ _ _ _ _ (by assumption) hml hrl hlast | omega)) ?_
            repeat (walk_at "st")
            rename St _ _ _ _ _ _ _ _ => S
            refine rMApp (S.new (.tail _ (.head _))) ?_
            repeat (walk_at "st")
            rename St _ _ _ _ _ _ _ _ => S
            refine rItemL (S.base (k57 _ _ hD)) (by (first | exact omq279 _ _ hrl | omega)) (by (first | exact omq280 _ _ _ _ _ hn1 (by assumption) hml hi hrl | omega)) (by simpa using hcm) ?_
            repeat (walk_at "st")
            rename St _ _ _ _ _ _ _ _ => S
            refine take_st (pre := [(I, oI), (aP, lstO vs' kv)]) (post := []) (lim := 3) S hS' R.dp (by (first | exact omq281 _ _ _ _ _ _ _ _ hn1 (by assumption) hml hi hrl hv hlen' hgl | omega)) (by decide) (by decide) fun h' tk' o4 kq t4 hkq hS4 S kk => ?_
            repeat (walk_at "st")
            rename St _ _ _ _ _ _ _ _ => S
            have gt := fresh_of_stays (stays_trans kg2 k57) (S.nw _ (.head _)).2.2
            obtain ⟨h₈, S8, kz8, ht8⟩ := S.rest (fun v q => nomatch q)
            clear S
            refine rApp (pre := [(I, oI)]) (post := [(src, o4)]) S8 (by rw [sizeLine_eq, hpl.length]; (first | exact omq282 _ _ _ _ _ hn1 (by assumption) hml hi hrl | omega)) fun h' k' S => ?_
            repeat (walk_at "st")
            rename St _ _ _ _ _ _ _ _ => S
            refine ⟨_, _, _, _, _, _, rfl, ⟨rfl, o4, _, _, rs ++ [⟨cm, gs, kq⟩], _, rfl, stays_trans k57 kz8, (hS4.keep kz8).le (by (first | exact omq276 _ _ _ _ hv hlen' hgl | omega)), ⟨rfl, rfl, rfl, rfl, rfl, trivial⟩, (hpl.keep (newer_mono kz8)).append (us := [_]) (ts := [⟨cm, gs, kq⟩]) ⟨⟨_, Dg, _, _, _, _, _, rfl, newer_get ht8 gt, newer_get (kz8 _ _ hDg) gDg, hgi⟩, trivial⟩, by rw [List.length_append, hrl]; rfl, good_snoc hgood hrl ⟨Nat.le_of_lt_succ hkq, hv3, hgs, cm3, fun _ => cm1, fun q => absurd q (by (first | exact omq283 _ _ _ _ _ (by assumption) hml hrl hlast q | omega))⟩⟩, S⟩
      · intro h₀' l lc news h6 tk6 hJ S
        obtain ⟨rfl, o', vs', kv, rs, tl, rfl, kk5, hS', hsub, hpl, hrl, hgood⟩ := hJ
        replace S := S.names hsub
        repeat (walk_at "st")
        rename St _ _ _ _ _ _ _ _ => S
        have kgx := stays_trans kg2 kk5
        have gt := fresh_of_stays kgx (S.nw _ (.head _)).2.2
        have gP := fresh_of_stays kgx (S.nw _ (.tail _ (.head _))).2.2
        obtain ⟨hx, Sx, kx, ht⟩ := S.rest (fun v q => nomatch q)
        obtain ⟨hy, Sy, ky, hP⟩ := Sx.rest (fun v q => nomatch q)
        have kxy := stays_trans kx ky
        refine hret _ _ o' hy _ aP sd vs' kv rs ring fs st _ (fun b x hb e => Sy.out _ _ (stays_trans kgx kxy _ _ (by rw [← hg]; exact hideAll_get _ e hb))) (Sy.new (.head _)) (stays_trans kgx kxy) Sy.out (Sy.nw _ (.head _)).2.2 (newer_get (ky _ _ ht) gt) (newer_get hP gP) (hpl.keep (newer_mono kxy)) (by (first | exact omq284 _ _ _ _ hn1 hlen' hml hrl | omega)) (by (first | exact omq285 _ _ _ _ hn1 hlen' hml hrl | omega)) (by rw [hrl]; exact hgood) (mapKeep hsd2 (newer_mono (stays_trans kk5 kxy))) losd hst
end law_planC
section
variable {prog : Program} {w : World} {A : Around} {Q E : Value → Shared → Prop} {s : Shared} 
theorem law_plan {src : Addr} {o : Obj} (ho : s.heap.get? src = some o) (hS : SrcA (hideAll s.heap [src]) 0 o) (W : Wd w (hideAll s.heap [src])) (R : Rm A 6 30)
    (hret : ∀ h' tk' o' h0 t P sd vs kp rs ring (fs : Int → Option Value) (st : Nat → Bool) m, (∀ b x, b ∉ [src] → s.heap.get? b = some x → h'.get? b = some x) → h'.get? src = some o' → (hideAll s.heap [src]).StaysIn h0 → h0.StaysIn h' → h0.get? src = none →
      (newer (hideAll s.heap [src]) h0).get? t = some (tupO [.ref P, .ref sd, .bool ring] m) → (newer (hideAll s.heap [src]) h0).get? P = some (lstO vs kp) → PlanIs (newer (hideAll s.heap [src]) h0) vs rs →
      0 < rs.length → rs.length ≤ 23 → (∀ j r, rs[j]? = some r → GoodRow rs.length ring j r) → (newer (hideAll s.heap [src]) h0).MapOf (intKind prog w) sd fs → (sd == sysModules) = false → (∀ g : Nat, 1 ≤ g → g ≤ 4 → fs (g : Int) = some (.bool (st g))) →
      Q (.ref t) { s with heap := h', toks := tk' }) : wpAny (model prog w) A (call (.ref 437) [.ref src]) Q E s := worst_all (α := law_planC.V) (default, Cx.one.w, {}, fun _ _ => True, fun _ _ => True, Cx.one.s, (0 : Nat)) (fun _ : law_planC.V => (0 : Nat)) (fun v => law_planC.P v.1 v.2.1 v.2.2.1 v.2.2.2.1 v.2.2.2.2.1 v.2.2.2.2.2.1 v.2.2.2.2.2.2) (fun _ => @law_planC.at_c) (prog, w, A, Q, E, s, src) ho hS W R hret
end

/-! QL6 -/
section
variable {prog : Program} {w : World} {A : Around} {Q E : Value → Shared → Prop} {s : Shared} 
theorem enterR {news : List (Addr × Obj)} {R : Result → Shared → Prop} {f : Addr} {oc : Value} {od : Option Addr} {osl : Array (Option Value)} {name qual : Str} {params : Arguments} {body : List Stmt} {scope : Scope} {dV kV doc pm cdv ct : Value} {an : Option Addr} {args : List Value} {binds : List (Str × Value)}
    (hn : ∀ p ∈ news, s.heap.get? p.1 = some p.2) (hnd : (news.map (·.1)).Nodup)
    (W : Wd w (hideAll s.heap (news.map (·.1)))) (ho : (wr.heap_1 w.params).lookup f = some ⟨oc, od, .func (fnOf name qual params body scope dV kV doc pm an cdv ct), osl⟩) (hcd : codeIn (wr.heap_1 w.params) cdv qual = true)
    (hroom : A.depth < recursionLimit) (hbind : BindsTo s (fnOf name qual params body scope dV kV doc pm an cdv ct) ⟨args, []⟩ binds)
    (hloc : ∀ y ∈ binds, scope.names.lookup y.1 = some .local)
    (h : ∀ h₁ tk, St w (hideAll s.heap (news.map (·.1))) s.heap.objs.size [] binds.reverse [] news h₁ → s.heap.StaysIn h₁ →
      wpAny (model prog w) (A.deeper (envX qual scope s.heap.objs.size f cdv [])) (execs body (envX qual scope s.heap.objs.size f cdv []))
        (fun fl s' => R (.ok (.ret (match fl with | .ret v => v | _ => .none))) s')
        (fun e s' => wpAny (model prog w) (A.deeper (envX qual scope s.heap.objs.size f cdv [])) (leaving (envX qual scope s.heap.objs.size f cdv []) e) (fun _ s'' => R (.error e) s'') (fun e' s'' => R (.error e') s'') s')
        { s with heap := h₁, toks := tk })
    (hco : scope.isCoroutine = false) (hgen : scope.isGenerator = false) (hk : scope.kind = .function) (hcell : ∀ x ∈ scope.names, x.2 ≠ .cell) :
    codeAny (model prog w) A (.call (.ref f) ⟨args, []⟩) R s := by
  have st : (hideAll s.heap (news.map (·.1))).StaysIn s.heap := fun b o e => of_hideAll _ e
  have W' := W.keeps st
  refine codeAny_call_def (fd := fnOf name qual params body scope dV kV doc pm an cdv ct) hroom (W'.K _ _ ho) rfl W'.nolimit (codeRec_of W'.K hcd) rfl hbind hcell hloc (fun h₁ hn₁ hk₁ => ?_) hco hgen hk
  have kk := stays_trans st hk₁
  have nL : (hideAll s.heap (news.map (·.1))).get? s.heap.objs.size = none := by rw [← hideAll_size (news.map (·.1)) s.heap]; exact get_size _
  exact h h₁ _ ⟨⟨_, _, ⟨hn₁, kk, Nat.le_of_eq (hideAll_size _ _)⟩, stays_refl, W, fun _ _ e => e⟩, kk, nL, fun p hp => ⟨hk₁ _ _ (hn p hp), Nat.ne_of_lt (Heap.lt_size (hn p hp)), hideAll_none _ (List.mem_map_of_mem hp)⟩, fun x v e => (nomatch e), hnd⟩ hk₁
/-- an object made: its __init__ entered, the object and its dict on the ledger -/
theorem mkIn {C fI : Addr} {rest : List Value} {oc : Value} {od : Option Addr} {osl : Array (Option Value)} {name qual : Str} {params : Arguments} {body : List Stmt} {scope : Scope} {dV kV doc pm cdv ct : Value} {an : Option Addr} {binds : Addr → List (Str × Value)}
    (W : Wd w s.heap) (hm : makesIn (wr.heap_1 w.params) C = true) (hi : findIn (wr.heap_1 w.params) (.ref C) "__init__" = some (some (.ref fI))) (hf : typeIn (wr.heap_1 w.params) (.ref fI) = some (.type "function"))
    (ho : (wr.heap_1 w.params).lookup fI = some ⟨oc, od, .func (fnOf name qual params body scope dV kV doc pm an cdv ct), osl⟩) (hcd : codeIn (wr.heap_1 w.params) cdv qual = true)
    (hroom : (A.under (.builtin "type.__call__" ⟨.ref C :: rest, []⟩)).depth < recursionLimit)
    (hbind : ∀ x H, Wd w H → BindsTo { s with heap := H } (fnOf name qual params body scope dV kV doc pm an cdv ct) ⟨.ref x :: rest, []⟩ (binds x))
    (hloc : ∀ x, ∀ y ∈ binds x, scope.names.lookup y.1 = some .local)
    (h : ∀ G x d L h₁ tk, s.heap.StaysIn G → s.heap.get? d = none → s.heap.get? x = none → St w G L [] (binds x).reverse [] [(x, instObj C d), (d, dictOf [] 0)] h₁ →
      wpAny (model prog w) ((A.under (.builtin "type.__call__" ⟨.ref C :: rest, []⟩)).deeper (envX qual scope L fI cdv [])) (execs body (envX qual scope L fI cdv []))
        (fun fl s' => (match fl with | .ret v => v | _ => .none) = .none ∧ Q (.ref x) s')
        (fun e s' => wpAny (model prog w) ((A.under (.builtin "type.__call__" ⟨.ref C :: rest, []⟩)).deeper (envX qual scope L fI cdv [])) (leaving (envX qual scope L fI cdv []) e) (fun _ s'' => E e s'') E s') { s with heap := h₁, toks := tk })
    (hco : scope.isCoroutine = false) (hgen : scope.isGenerator = false) (hk : scope.kind = .function) (hcell : ∀ x ∈ scope.names, x.2 ≠ .cell) :
    wpAny (model prog w) A (call (.ref C) rest) Q E s := by
  obtain ⟨hh, g, dr, t, os⟩ := s
  dsimp only at W h hbind
  refine wpAny_call (make_core (makes_of W.K hm) (looks_findIn W.K hi) (fun self => bind_fn W.K self hf) (.inl rfl) ?_)
  have e1 : ((hh.push emptyDict).push (instObj C hh.objs.size)).get? hh.objs.size = some (dictOf [] 0) := by heap_get
  have e2 : ((hh.push emptyDict).push (instObj C hh.objs.size)).get? (hh.objs.size + 1) = some (instObj C hh.objs.size) := by heap_get
  have k : hh.StaysIn ((hh.push emptyDict).push (instObj C hh.objs.size)) := stays_trans (stays_push _) (stays_push _)
  have n1 : hh.get? hh.objs.size = none := get_size _
  have n2 : hh.get? (hh.objs.size + 1) = none := Heap.get?_none_of_le (Nat.le_succ _)
  have ne : hh.objs.size + 1 ≠ hh.objs.size := Nat.succ_ne_self _
  generalize (hh.push emptyDict).push (instObj C hh.objs.size) = H at e1 e2 k ⊢
  generalize hh.objs.size + 1 = x at e2 n2 ne ⊢
  generalize hh.objs.size = d at e1 e2 n1 ne ⊢
  have k0 : hh.StaysIn (hideAll H [x, d]) := fun b o e => hideAll_get _ (k _ _ e) fun q => by
    rcases List.mem_cons.mp q with rfl | q
    · rw [n2] at e; cases e
    · rw [List.mem_singleton.mp q, n1] at e; cases e
  refine codeAny_mono (enterR (news := [(x, instObj C d), (d, dictOf [] 0)]) (R := fun r s' => match r with | .ok (.ret v) => v = .none ∧ Q (.ref x) s' | .ok _ => False | .error e => E e s')
    (fun p hp => ?_) ?_ (W.keeps k0) ho hcd hroom (hbind _ _ (W.keeps k)) (hloc _) (fun h₁ tk S _ => h _ _ _ _ h₁ tk k0 n1 n2 S) hco hgen hk hcell) fun r s' z => ?_
  · rcases List.mem_cons.mp hp with rfl | hp
    · exact e2
    · rw [List.mem_singleton.mp hp]; exact e1
  · simp [ne]
  · rcases r with e | (v | _ | _ | _) <;> exact z
/-- a field stored, in an object's own dict -/
theorem rSetA {h₀ : Heap} {L : Addr} {cl : List (Str × Addr)} {l : List (Str × Value)} {lc : List (Str × Option Value)} {pre post : List (Addr × Obj)} {x dx C : Addr} {es es' : List DictEntry} {n n' : Nat} {name : Str} {v : Value} {Q : Unit → Shared → Prop}
    (S : St w h₀ L cl l lc (pre ++ (dx, dictOf es n) :: post) s.heap) (hx : s.heap.get? x = some (instObj C dx))
    (hs : findIn (wr.heap_1 w.params) (.ref C) "__setattr__" = some (some (.builtin "object.__setattr__"))) (hp : plainOver (wr.heap_1 w.params) C = true) (ht : takerIn (wr.heap_1 w.params) C name = some none) (hh : hasDictIn (wr.heap_1 w.params) C = true)
    (e : (putL name (PyData.keyHash w.params name) (.str name (s.toks + 1)) v es, putN name es n) = (es', n')) (hl : (getL name es).isSome = true) (hz : es'.length ≤ 1000)
    (h : ∀ h', St w h₀ L cl l lc (pre ++ (dx, dictOf es' n') :: post) h' → Q () { s with heap := h', toks := s.toks + 2 }) :
    wpAny (model prog w) A (setAttr (.ref x) name v) Q E s := by
  have D := S.nw (dx, dictOf es n) (by simp)
  have I : PySem.W.InstAt s.heap x (instObj C dx) C (some (dictOf es n)) := ⟨hx, rfl, rfl, D.1⟩
  obtain ⟨⟨g, m, F, G, W, hm⟩, Z, LZ, N, CE, ND⟩ := S
  have K := (W.keeps G).keeps Z |>.K
  obtain ⟨q1, q2⟩ := Prod.mk.inj e
  let al := (List.range s.heap.objs.size).filterMap fun a => if a = L ∨ a = dx then none else (s.heap.get? a).map fun o => (a, o)
  have hal : ∀ p, p ∈ al ↔ s.heap.get? p.1 = some p.2 ∧ p.1 ≠ L ∧ p.1 ≠ dx := by
    intro p
    simp only [al, List.mem_filterMap, List.mem_range]
    constructor
    · rintro ⟨a, ha, q⟩
      split at q
      · cases q
      · rename_i hn
        obtain ⟨o, ho, rfl⟩ := Option.map_eq_some_iff.mp q
        exact ⟨ho, fun z => hn (.inl z), fun z => hn (.inr z)⟩
    · rintro ⟨a1, a2, a3⟩
      refine ⟨p.1, Heap.lt_size a1, ?_⟩
      rw [if_neg (fun z => z.elim a2 a3), a1]; rfl
  have none0 : ∀ b, (default : Heap).get? b = none := fun b => Heap.get?_none_of_le (Nat.zero_le _)
  have F0 : Fr default L s.heap m := ⟨F.ns, (fun b o z => by rw [none0] at z; cases z), Nat.zero_le _⟩
  have N0 : News default L s.heap ([] ++ (dx, dictOf es n) :: al) := by
    intro p hp
    rcases List.mem_cons.mp hp with rfl | hp
    · exact ⟨D.1, D.2.1, none0 _⟩
    · exact ⟨((hal p).mp hp).1, ((hal p).mp hp).2.1, none0 _⟩
  refine set_plain K I hs (osa_dict (s := { s with toks := s.toks + 1 }) (od' := dictOf es' n') F0 N0 K I rfl hp ht hh hl (fun _ z => nomatch z) (fun p hp => ((hal p).mp hp).2.2) (by rw [putName_dict, q1, q2]) rfl hz fun h' F' N' => h h' ?_)
  have new := (N' (dx, dictOf es' n') (by simp)).1
  have old : ∀ b o, b ≠ L → b ≠ dx → s.heap.get? b = some o → h'.get? b = some o := fun b o b1 b2 z => (N' (b, o) (List.mem_cons_of_mem _ ((hal (b, o)).mpr ⟨z, b1, b2⟩))).1
  have z0 : ∀ b o, h₀.get? b = some o → h'.get? b = some o := fun b o z => old b o (fun q => by rw [q, LZ] at z; cases z) (fun q => by rw [q, D.2.2] at z; cases z) (Z _ _ z)
  have nd' := ND
  rw [List.map_append, List.map_cons] at nd'
  refine ⟨⟨g, m, ⟨F'.ns, fun b o z => z0 b o (G _ _ z), F.above⟩, G, W, hm⟩, z0, LZ, fun p hp => ?_, fun y u z => ?_, ?_⟩
  · rcases List.mem_append.mp hp with hp | hp
    · have a := N p (List.mem_append_left _ hp)
      exact ⟨old _ _ a.2.1 ((List.nodup_append.mp nd').2.2 p.1 (List.mem_map_of_mem hp) dx (.head _)) a.1, a.2⟩
    · rcases List.mem_cons.mp hp with rfl | hp
      · exact ⟨new, D.2⟩
      · have a := N p (List.mem_append_right _ (.tail _ hp))
        exact ⟨old _ _ a.2.1 (fun q => (List.nodup_cons.mp (List.nodup_append.mp nd').2.1).1 (q ▸ (List.mem_map_of_mem (f := (·.1)) hp : p.1 ∈ post.map (·.1)))) a.1, a.2⟩
  · obtain ⟨c, o, c1, c2, c3, c4, c5⟩ := CE y u z
    exact ⟨c, o, c1, old _ _ c4 (fun q => by rw [q, D.1] at c2; cases c2; cases c3) c2, c3, c4, c5⟩
  · rw [List.map_append, List.map_cons]; exact nd'
section
theorem mkNm {x : Str} {t : Tok} {d u : Nat} (W : Wd w s.heap) (R : Rm A d u) (h : ∀ h' tk a, s.heap.StaysIn h' → IsNm w (newer s.heap h') a x → Q (.ref a) { s with heap := h', toks := tk }) : wpAny (model prog w) A (call (.ref 183) [.str x t]) Q E s := by
  refine R.az ?_
  refine' mkIn (binds := fun a => [("self", .ref a), ("text", .str x t)]) W ?hm ?hi ?hf ?ho ?hcd ?hroom ?hbind ?hloc ?_ ?c1 ?c2 ?c3 ?c4
  ((case hm => k_is); (case hi => k_is); (case hf => k_is); (case ho => k_is); (case hcd => k_is); (case hroom => k_room); (case hbind => first | exact fun _ _ _ => BindsTo.of_eq rfl | exact fun _ _ W => binds_K (Wd.K W) rfl (by k_is) rfl rfl rfl); (case hloc => exact fun _ => locs rfl); (case c1 => exact rfl); (case c2 => exact rfl); (case c3 => exact rfl); (case c4 => decide))
  intro G a d L h₁ tk k nd na S
  repeat (walk_at "st")
  refine plainObj_wpAny_Assign_Attribute ?_
  repeat (walk_at "st")
  rename St _ _ _ _ _ _ _ _ => S
  refine' rSetA (pre := [(a, instObj 183 d)]) (post := []) S ?hx ?hs ?hp ?ht ?hh ?e ?hl ?hz ?_
  ((case hx => exact St.new (by assumption) (by k_mem)); (case hs => k_is); (case hp => k_is); (case ht => k_is); (case hh => k_is); (case e => k_put); (case hl => k_get); (case hz => exact Nat.le_of_ble_eq_true rfl); intro _ _; repeat (walk_at "st"))
  rename St _ _ _ _ _ _ _ _ => S
  exact ⟨rfl, h _ _ _ (stays_trans k S.out) ⟨d, _, _, _, newer_get (S.new (.head _)) na, newer_get (S.new (.tail _ (.head _))) nd⟩⟩
theorem mkRef {n : Int} {t u : Tok} {d' u' : Nat} (W : Wd w s.heap) (R : Rm A d' u') (h : ∀ h' tk a, s.heap.StaysIn h' → IsRef w (newer s.heap h') a n → Q (.ref a) { s with heap := h', toks := tk }) : wpAny (model prog w) A (call (.ref 254) [.int n t, .int 0 u]) Q E s := by
  refine R.az ?_
  refine' mkIn (binds := fun a => [("self", .ref a), ("number", .int n t), ("generation", .int 0 u)]) W ?hm ?hi ?hf ?ho ?hcd ?hroom ?hbind ?hloc ?_ ?c1 ?c2 ?c3 ?c4
  ((case hm => k_is); (case hi => k_is); (case hf => k_is); (case ho => k_is); (case hcd => k_is); (case hroom => k_room); (case hbind => first | exact fun _ _ _ => BindsTo.of_eq rfl | exact fun _ _ W => binds_K (Wd.K W) rfl (by k_is) rfl rfl rfl); (case hloc => exact fun _ => locs rfl); (case c1 => exact rfl); (case c2 => exact rfl); (case c3 => exact rfl); (case c4 => decide))
  intro G a d L h₁ tk k nd na S
  repeat (walk_at "st")
  refine plainObj_wpAny_Assign_Attribute ?_
  repeat (walk_at "st")
  rename St _ _ _ _ _ _ _ _ => S
  refine' rSetA (pre := [(a, instObj 254 d)]) (post := []) S ?hx ?hs ?hp ?ht ?hh ?e ?hl ?hz ?_
  ((case hx => exact St.new (by assumption) (by k_mem)); (case hs => k_is); (case hp => k_is); (case ht => k_is); (case hh => k_is); (case e => k_put); (case hl => k_get); (case hz => exact Nat.le_of_ble_eq_true rfl); intro _ _; repeat (walk_at "st"))
  refine plainObj_wpAny_Assign_Attribute ?_
  repeat (walk_at "st")
  rename St _ _ _ _ _ _ _ _ => S
  refine' rSetA (pre := [(a, instObj 254 d)]) (post := []) S ?hx ?hs ?hp ?ht ?hh ?e ?hl ?hz ?_
  ((case hx => exact St.new (by assumption) (by k_mem)); (case hs => k_is); (case hp => k_is); (case ht => k_is); (case hh => k_is); (case e => k_put); (case hl => k_get); (case hz => exact Nat.le_of_ble_eq_true rfl); intro _ _; repeat (walk_at "st"))
  rename St _ _ _ _ _ _ _ _ => S
  exact ⟨rfl, h _ _ _ (stays_trans k S.out) ⟨d, _, _, _, _, _, newer_get (S.new (.head _)) na, newer_get (S.new (.tail _ (.head _))) nd⟩⟩
theorem mkStr {b : Array UInt8} {t : Tok} {d' u' : Nat} (W : Wd w s.heap) (R : Rm A d' u') (h : ∀ h' tk a, s.heap.StaysIn h' → IsSt w (newer s.heap h') a b → Q (.ref a) { s with heap := h', toks := tk }) : wpAny (model prog w) A (call (.ref 205) [.bytes b t]) Q E s := by
  refine R.az ?_
  refine' mkIn (binds := fun a => [("self", .ref a), ("octets", .bytes b t), ("is_hex", .bool false)]) W ?hm ?hi ?hf ?ho ?hcd ?hroom ?hbind ?hloc ?_ ?c1 ?c2 ?c3 ?c4
  ((case hm => k_is); (case hi => k_is); (case hf => k_is); (case ho => k_is); (case hcd => k_is); (case hroom => k_room); (case hbind => first | exact fun _ _ _ => BindsTo.of_eq rfl | exact fun _ _ W => binds_K (Wd.K W) rfl (by k_is) rfl rfl rfl); (case hloc => exact fun _ => locs rfl); (case c1 => exact rfl); (case c2 => exact rfl); (case c3 => exact rfl); (case c4 => decide))
  intro G a d L h₁ tk k nd na S
  repeat (walk_at "st")
  refine plainObj_wpAny_Assign_Attribute ?_
  repeat (walk_at "st")
  rename St _ _ _ _ _ _ _ _ => S
  refine' rSetA (pre := [(a, instObj 205 d)]) (post := []) S ?hx ?hs ?hp ?ht ?hh ?e ?hl ?hz ?_
  ((case hx => exact St.new (by assumption) (by k_mem)); (case hs => k_is); (case hp => k_is); (case ht => k_is); (case hh => k_is); (case e => k_put); (case hl => k_get); (case hz => exact Nat.le_of_ble_eq_true rfl); intro _ _; repeat (walk_at "st"))
  refine plainObj_wpAny_Assign_Attribute ?_
  repeat (walk_at "st")
  rename St _ _ _ _ _ _ _ _ => S
  refine' rSetA (pre := [(a, instObj 205 d)]) (post := []) S ?hx ?hs ?hp ?ht ?hh ?e ?hl ?hz ?_
  ((case hx => exact St.new (by assumption) (by k_mem)); (case hs => k_is); (case hp => k_is); (case ht => k_is); (case hh => k_is); (case e => k_put); (case hl => k_get); (case hz => exact Nat.le_of_ble_eq_true rfl); intro _ _; repeat (walk_at "st"))
  rename St _ _ _ _ _ _ _ _ => S
  exact ⟨rfl, h _ _ _ (stays_trans k S.out) ⟨d, _, _, _, _, newer_get (S.new (.head _)) na, newer_get (S.new (.tail _ (.head _))) nd⟩⟩
theorem shelf_r (W : Wd w s.heap)
    (h : ∀ h' tk sh dsh tb tr t1 t2 k, s.heap.StaysIn h' → s.heap.get? sh = none → s.heap.get? dsh = none → s.heap.get? tb = none → s.heap.get? tr = none → h'.get? sh = some (instObj 363 dsh) → h'.get? dsh = some (dictOf [kv w "table" t1 (.ref tb), kv w "trailer" t2 (.ref tr)] k) →
      h'.get? tb = some { cls := .type "dict", data := .dict #[] } → tb ≠ dsh → tb ≠ sh → (tb == sysModules) = false → Q (.ref sh) { s with heap := h', toks := tk }) :
    wpAny (model prog w) Az (call (.ref 363) []) Q E s := by
  refine' mkIn (binds := fun a => [("self", .ref a), ("table", .none), ("trailer", .none)]) W ?hm ?hi ?hf ?ho ?hcd ?hroom ?hbind ?hloc ?_ ?c1 ?c2 ?c3 ?c4
  ((case hm => k_is); (case hi => k_is); (case hf => k_is); (case ho => k_is); (case hcd => k_is); (case hroom => k_room); (case hbind => first | exact fun _ _ _ => BindsTo.of_eq rfl | exact fun _ _ W => binds_K (Wd.K W) rfl (by k_is) rfl rfl rfl); (case hloc => exact fun _ => locs rfl); (case c1 => exact rfl); (case c2 => exact rfl); (case c3 => exact rfl); (case c4 => decide))
  intro G a d L h₁ tk k nd na S
  repeat (walk_at "st")
  refine plainObj_wpAny_Assign_Attribute ?_
  repeat (walk_at "st")
  refine PyProof.Rows.is_none_none ?_
  repeat (walk_at "st")
  rename St _ _ _ _ _ _ _ _ => S
  refine rDict0 S fun tb h2 lo k2 S => ?_
  repeat (walk_at "st")
  rename St _ _ _ _ _ _ _ _ => S
  refine' rSetA (pre := [(tb, _), (a, instObj 363 d)]) (post := []) S ?hx ?hs ?hp ?ht ?hh ?e ?hl ?hz ?_
  ((case hx => exact St.new (by assumption) (by k_mem)); (case hs => k_is); (case hp => k_is); (case ht => k_is); (case hh => k_is); (case e => k_put); (case hl => k_get); (case hz => exact Nat.le_of_ble_eq_true rfl); intro _ _; repeat (walk_at "st"))
  refine plainObj_wpAny_Assign_Attribute ?_
  repeat (walk_at "st")
  refine PyProof.Rows.is_none_none ?_
  repeat (walk_at "st")
  rename St _ _ _ _ _ _ _ _ => S
  refine rDict0 S fun tr h3 lo2 k3 S => ?_
  repeat (walk_at "st")
  rename St _ _ _ _ _ _ _ _ => S
  refine' rSetA (pre := [(tr, _), (tb, _), (a, instObj 363 d)]) (post := []) S ?hx ?hs ?hp ?ht ?hh ?e ?hl ?hz ?_
  ((case hx => exact St.new (by assumption) (by k_mem)); (case hs => k_is); (case hp => k_is); (case ht => k_is); (case hh => k_is); (case e => k_put); (case hl => k_get); (case hz => exact Nat.le_of_ble_eq_true rfl); intro _ _; repeat (walk_at "st"))
  rename St _ _ _ _ _ _ _ _ => S
  have nn : ∀ {b : Addr} {o : Obj}, (b, o) ∈ ([(tr, _), (tb, _), (a, instObj 363 d)] ++ [(d, _)] : List (Addr × Obj)) → s.heap.get? b = none := fun q => fresh_of_stays k (S.nw _ q).2.2
  have nd' := S.nd
  simp only [List.map_append, List.map_cons, List.map_nil, List.cons_append, List.nil_append, List.nodup_cons, List.mem_cons, not_or] at nd'
  exact ⟨rfl, h _ _ _ _ _ _ _ _ _ (stays_trans k S.out) na nd (nn (by k_mem)) (nn (by k_mem)) (S.new (by k_mem)) (S.new (by k_mem)) (S.new (by k_mem)) (fun q => nd'.2.1.2.1 q) (fun q => nd'.2.1.1 q) lo⟩
end
end

/-! QL7 -/
section
variable {prog : Program} {w : World} {A : Around} {Q E : Value → Shared → Prop} {s : Shared} 
theorem stored_new {kvs : List (Int × Value)} {n : Int} {v : Value} (h : n ∉ kvs.map (·.1)) : stored kvs n v = kvs ++ [(n, v)] := by
  unfold stored
  rw [if_neg]
  intro q
  obtain ⟨x, hx, e⟩ := List.any_eq_true.mp q
  exact h (by rw [← of_decide_eq_true e]; exact List.mem_map_of_mem hx)
theorem dictO_noCell {K : Type} [DecidableEq K] {knd : KeyKind prog w K} {o : Obj} {kvs : List (K × Value)} (x : o.IsDictOf knd kvs) (v : Option Value) : o.data ≠ .cell v := fun q => by obtain ⟨es, ep, _, e, _⟩ := x; rw [e] at q; cases q
theorem put_k {sh dsh tb tr : Addr} {t1 t2 : Tok} {k : Nat} {o : Obj} {kvs : List (Int × Value)} {n : Int} {v : Addr} {tn tz : Tok} (W : Wd w (hideAll s.heap [tb])) (R : Rm A 2 10)
    (hsh : (hideAll s.heap [tb]).get? sh = some (instObj 363 dsh)) (hdsh : (hideAll s.heap [tb]).get? dsh = some (dictOf [kv w "table" t1 (.ref tb), kv w "trailer" t2 (.ref tr)] k)) (ho : s.heap.get? tb = some o) (hd : o.IsDictOf (intKind prog w) kvs) (hk : n ∉ kvs.map (·.1)) (hl : kvs.length ≤ 1000)
    (hret : ∀ h' tk o' tp t m, (∀ b x, b ∉ [tb] → s.heap.get? b = some x → h'.get? b = some x) → h'.get? tb = some o' → o'.IsDictOf (intKind prog w) (kvs ++ [(n, .ref tp)]) → s.heap.get? tp = none → h'.get? tp = some (tupO [.int 0 t, .ref v] m) → Q .none { s with heap := h', toks := tk }) :
    wpAny (model prog w) A (call (.ref 327) [.ref sh, .int n tn, .int 0 tz, .ref v]) Q E s := by
  refine' enter (news := [(tb, o)]) ?hn ?hnd ?W ?ho ?hcd ?hroom ?hb ?hloc ?_ ?c1 ?c2 ?c3 ?c4
  (case hn => intro p hp; rw [List.mem_singleton.mp hp]; exact ho)
  (case hnd => simp)
  (case W => exact W)
  (case ho => k_is)
  (case hcd => k_is)
  (case hroom => exact Rm.room (by assumption))
  (case hb => exact BindsTo.of_eq rfl)
  (case hloc => exact locs rfl)
  (case c1 => exact rfl)
  (case c2 => exact rfl)
  (case c3 => exact rfl)
  (case c4 => decide)
  intro h₁ tk₁ S k₁
  dsimp only at S k₁ ⊢
  replace S : St w (hideAll s.heap [tb]) _ _ _ _ _ _ := S.names (l' := [("value", .ref v), ("generation", .int 0 tz), ("number", .int n tn), ("self", .ref sh)]) ⟨rfl, rfl, rfl, rfl, trivial⟩
  have kk0 : ∀ b x, b ∉ [tb] → s.heap.get? b = some x → (hideAll s.heap [tb]).get? b = some x := fun b x hb e => hideAll_get _ e hb
  repeat (walk_at "st")
  rename St _ _ _ _ _ _ _ _ => S
  rename Addr => tp
  refine wpAny_setItem_pairs (knd := intKind prog w) (intKind_is prog w n tn) (Heap.dictOf_iff.mpr ⟨o, S.new (.tail _ (.head _)), hd⟩) (fun h' hm hs => ?_) (by rw [sizeLine_eq]; (first | exact omq286 _ hl | omega))
  rw [stored_new hk] at hm
  obtain ⟨o', e1, e2⟩ := Heap.dictOf_iff.mp hm
  have ntp : s.heap.get? tp = none := by
    have a1 := (S.nw _ (.head _)).2.2
    have a2 := S.nd
    rw [List.map_cons, List.nodup_cons] at a2
    cases q : s.heap.get? tp with
    | none => rfl
    | some x => exact absurd (kk0 tp x (fun q2 => a2.1 (by rw [List.mem_singleton.mp q2]; exact .head _)) q) (by rw [a1]; exact fun q => nomatch q)
  have S' := S.upd' (pre := [(tp, tupO [.int 0 tz, .ref v] 0)]) (dictO_noCell hd) hs e1
  clear S
  repeat (walk_at "st")
  exact hret _ _ o' tp tz 0 (fun b x hb e => S'.out _ _ (kk0 b x hb e)) e1 e2 ntp (S'.new (.head _))
/-- put, where the table is the frame's to turn -/
theorem put_st {h₀ : Heap} {L : Addr} {cl : List (Str × Addr)} {l : List (Str × Value)} {lc : List (Str × Option Value)} {pre post : List (Addr × Obj)} {sh dsh tb tr : Addr} {t1 t2 : Tok} {k : Nat} {o : Obj} {kvs : List (Int × Value)} {n : Int} {v : Addr} {tn tz : Tok} (S : St w h₀ L cl l lc (pre ++ (tb, o) :: post) s.heap) (R : Rm A 2 10)
    (hsh : h₀.get? sh = some (instObj 363 dsh)) (hdsh : h₀.get? dsh = some (dictOf [kv w "table" t1 (.ref tb), kv w "trailer" t2 (.ref tr)] k)) (hd : o.IsDictOf (intKind prog w) kvs) (hk : n ∉ kvs.map (·.1)) (hl : kvs.length ≤ 1000)
    (hret : ∀ h' h₁ tk o' tp t m, h₀.StaysIn h₁ → St w h₁ L cl l lc (pre ++ (tb, o') :: post) h' → o'.IsDictOf (intKind prog w) (kvs ++ [(n, .ref tp)]) → h₀.get? tp = none → h₁.get? tp = some (tupO [.int 0 t, .ref v] m) → Q .none { s with heap := h', toks := tk }) :
    wpAny (model prog w) A (call (.ref 327) [.ref sh, .int n tn, .int 0 tz, .ref v]) Q E s := by
  have pK := S.nw (tb, o) (by simp)
  have kW : h₀.StaysIn (hideAll s.heap [tb]) := fun b x e => hideAll_get _ (S.base e) (fun q => by rw [List.mem_singleton.mp q, pK.2.2] at e; cases e)
  refine put_k (S.wd.keeps kW) R (kW _ _ hsh) (kW _ _ hdsh) pK.1 hd hk hl fun h' tk o' tp t m kk e1 e2 n1 e3 => ?_
  have S' := S.turn (dictO_noCell hd) kk e1
  have n0 := fresh_of_stays S.out n1
  obtain ⟨h₁, S1, k1, eq⟩ := S'.cool
  refine hret h' h₁ tk o' tp t m k1 S1 e2 n0 ?_
  rw [eq]
  refine hideAll_get _ e3 fun hm => ?_
  have : ∃ o, s.heap.get? tp = some o := by
    refine S.loose_in (b := tp) ?_
    unfold loose at hm ⊢
    rw [List.map_append, List.map_cons] at hm ⊢
    exact hm
  obtain ⟨x, hx⟩ := this
  rw [n1] at hx; cases hx
theorem mkShelf {h₀ : Heap} {L : Addr} {cl : List (Str × Addr)} {l : List (Str × Value)} {lc : List (Str × Option Value)} {news : List (Addr × Obj)} {d' u' : Nat} (S : St w h₀ L cl l lc news s.heap) (R : Rm A d' u')
    (hret : ∀ h' h₁ tk sh dsh tb tr t1 t2 k o, h₀.StaysIn h₁ → St w h₁ L cl l lc ((tb, o) :: news) h' → o.IsDictOf (intKind prog w) [] → h₀.get? sh = none → h₀.get? dsh = none → h₀.get? tb = none → h₁.get? sh = some (instObj 363 dsh) → h₁.get? dsh = some (dictOf [kv w "table" t1 (.ref tb), kv w "trailer" t2 (.ref tr)] k) → (tb == sysModules) = false → Q (.ref sh) { s with heap := h', toks := tk }) :
    wpAny (model prog w) A (call (.ref 363) []) Q E s := by
  refine R.az (shelf_r S.wdh fun h' tk sh dsh tb tr t1 t2 k kk n1 n2 n3 n4 e1 e2 e3 ne1 ne2 lo => ?_)
  have S' := S.fresh n3 kk e3
  obtain ⟨h₁, S1, k1, eq⟩ := S'.cool
  have fr : ∀ a o, s.heap.get? a = none → tb ≠ a → h'.get? a = some o → h₁.get? a = some o := by
    intro a o n e h
    rw [eq]
    refine hideAll_get _ h fun hm => ?_
    unfold loose at hm
    rw [List.map_cons] at hm
    have hm' : a ∈ loose L cl lc news ∨ a = tb := by
      unfold loose
      rcases List.mem_append.mp hm with q | q
      · exact .inl (List.mem_append_left _ q)
      · rcases List.mem_cons.mp q with q | q
        · exact .inr q
        · exact .inl (List.mem_append_right _ q)
    rcases hm' with q | q
    · obtain ⟨x, hx⟩ := S.loose_in q
      rw [n] at hx; cases hx
    · exact e q.symm
  refine hret h' h₁ tk sh dsh tb tr t1 t2 k _ k1 S1 ⟨#[], 0, ⟨rfl, rfl, rfl⟩, rfl, (fun e he => absurd he (by simp)), .nil, List.nodup_nil⟩ (fresh_of_stays S.out n1) (fresh_of_stays S.out n2) (fresh_of_stays S.out n3) (fr _ _ n1 ne2 e1) (fr _ _ n2 ne1 e2) lo
end

/-! QR9 -/
section
variable {prog : Program} {w : World} {A : Around} {E : Value → Shared → Prop} {s : Shared} {h₀ h h' : Heap} {L a : Addr} {cl : List (Str × Addr)} {l : List (Str × Value)} {lc : List (Str × Option Value)} {news : List (Addr × Obj)}

/-- some of the ledger turned -/
theorem St.turns {n1 n2 : List (Addr × Obj)} (S : St w h₀ L cl l lc (n1 ++ news) h) (hk : n2.map (·.1) = n1.map (·.1)) (hc : ∀ p ∈ n1, ∀ v, p.2.data ≠ .cell v) (k : ∀ b x, b ∉ n1.map (·.1) → h.get? b = some x → h'.get? b = some x) (hI : ∀ p ∈ n2, h'.get? p.1 = some p.2) :
    St w h₀ L cl l lc (n2 ++ news) h' := by
  have old : ∀ a ∈ n1.map (·.1), a ≠ L ∧ h₀.get? a = none := by
    intro a ha
    obtain ⟨p, hp, rfl⟩ := List.mem_map.mp ha
    exact (S.nw p (List.mem_append_left _ hp)).2
  obtain ⟨⟨g, m, F, G, W, hm⟩, Z, LZ, N, C, D⟩ := S
  have k0 : h₀.StaysIn h' := fun b x e => k b x (fun q => by have := (old _ q).2; rw [e] at this; cases this) (Z b x e)
  have D' := D
  rw [List.map_append] at D'
  refine ⟨⟨g, m, ⟨F.ns.at' fun x e => k L x (fun q => (old _ q).1 rfl) e, stays_trans G k0, F.above⟩, G, W, hm⟩, k0, LZ, fun p hp => ?_, fun x v e => ?_, by rw [List.map_append, hk]; exact D'⟩
  · rcases List.mem_append.mp hp with hp | hp
    · exact ⟨hI p hp, old _ (by rw [← hk]; exact List.mem_map_of_mem hp)⟩
    · have hq := N p (List.mem_append_right _ hp)
      exact ⟨k _ _ (fun q => (List.nodup_append.mp D').2.2 _ q _ (List.mem_map_of_mem hp) rfl) hq.1, hq.2⟩
  · obtain ⟨c, x', a1, a2, a3, a4, a5⟩ := C x v e
    refine ⟨c, x', a1, k _ _ (fun q => ?_) a2, a3, a4, a5⟩
    obtain ⟨p, hp, e1⟩ := List.mem_map.mp q
    have h1 := (N p (List.mem_append_left _ hp)).1
    rw [e1, a2] at h1; cases h1; exact hc p hp _ a3
/-- some of the ledger let go, whatever becomes of it -/
theorem St.buts {n1 : List (Addr × Obj)} (S : St w h₀ L cl l lc (n1 ++ news) h) (hc : ∀ p ∈ n1, ∀ v, p.2.data ≠ .cell v) (k : ∀ b x, b ∉ n1.map (·.1) → h.get? b = some x → h'.get? b = some x) :
    St w h₀ L cl l lc news h' := by
  have old : ∀ a ∈ n1.map (·.1), a ≠ L ∧ h₀.get? a = none := by
    intro a ha
    obtain ⟨p, hp, rfl⟩ := List.mem_map.mp ha
    exact (S.nw p (List.mem_append_left _ hp)).2
  obtain ⟨⟨g, m, F, G, W, hm⟩, Z, LZ, N, C, D⟩ := S
  have k0 : h₀.StaysIn h' := fun b x e => k b x (fun q => by have := (old _ q).2; rw [e] at this; cases this) (Z b x e)
  rw [List.map_append] at D
  refine ⟨⟨g, m, ⟨F.ns.at' fun x e => k L x (fun q => (old _ q).1 rfl) e, stays_trans G k0, F.above⟩, G, W, hm⟩, k0, LZ, fun p hp => ?_, fun x v e => ?_, (List.nodup_append.mp D).2.1⟩
  · have hq := N p (List.mem_append_right _ hp)
    exact ⟨k _ _ (fun q => (List.nodup_append.mp D).2.2 _ q _ (List.mem_map_of_mem hp) rfl) hq.1, hq.2⟩
  · obtain ⟨c, x', a1, a2, a3, a4, a5⟩ := C x v e
    refine ⟨c, x', a1, k _ _ (fun q => ?_) a2, a3, a4, a5⟩
    obtain ⟨p, hp, e1⟩ := List.mem_map.mp q
    have h1 := (N p (List.mem_append_left _ hp)).1
    rw [e1, a2] at h1; cases h1; exact hc p hp _ a3
theorem rUnpT {elts : List Expr} {k} {pos : Pos} {env : Env} {t : Addr} {items : List Value} {Q : Unit → Shared → Prop} (S : St w h₀ L cl l lc news s.heap) (hh : A.handled = none) (ht : s.heap.IsTuple t items.toArray)
    (hn : (assignEach elts env).length = items.length) (hstar : (assignEach elts env).findIdx? (·.1) = none)
    (h : ∀ h', s.heap.StaysIn h' → St w h₀ L cl l lc news h' → wpAny (model prog w) A (assignInOrder ((assignEach elts env).map (·.2)) items) Q E { s with heap := h' }) :
    wpAny (model prog w) A (assign (.Tuple elts k pos) env (.ref t)) Q E s := by
  refine assign_Tuple_tuple hh (items := items.toArray) ht (by simpa using hn) hstar fun h' he => ?_
  have st : s.heap.StaysIn h' := fun b o e => he b o (Nat.ne_of_lt (Heap.lt_size e)) e
  exact h h' st (S.keeps st)

/-- a for over enumerate(a frozen list) -/
theorem forEnum {elts : List Expr} {kt : Nat} {pt : Pos} {body orelse : List Stmt} {env : Env} {R : Result → Shared → Prop} {la : Addr} {arr : List Value} {kk : Nat}
    (J : Nat → Heap → List (Str × Value) → List (Str × Option Value) → List (Addr × Obj) → Prop)
    (S : St w h₀ L cl l lc news s.heap) (hh : A.handled = none) (hl : h₀.get? la = some (lstO arr kk)) (h0 : J 0 h₀ l lc news)
    (turn : ∀ i v T t h₀' l lc news h tk e oe it oi, (∃ vs, oe.data = .fields vs) → (∃ vs, oi.data = .fields vs) → arr[i]? = some v → h₀.StaysIn h₀' → h.IsTuple T [Value.int (i : Int) t, v].toArray → J i h₀' l lc news → St w h₀' L cl l lc ((e, oe) :: (it, oi) :: news) h →
      wpAny (model prog w) A (assign (.Tuple elts kt pt) env (.ref T)) (fun _ s₂ => wpAny (model prog w) A (execs body env) (fun f s₃ => match f with
          | .next => TurnedE w s h₀' L cl (J (i + 1)) e oe it oi s₃
          | .cont => TurnedE w s h₀' L cl (J (i + 1)) e oe it oi s₃
          | .brk => R (.ok .next) s₃
          | .ret v => R (.ok (.ret v)) s₃)
        (notedBy (model prog w) A env fun e s' => R (.error e) s') s₂) (notedBy (model prog w) A env fun e s' => R (.error e) s') { s with heap := h, toks := tk })
    (done : ∀ h₀' l lc news h tk, h₀.StaysIn h₀' → J arr.length h₀' l lc news → St w h₀' L cl l lc news h →
      wpAny (model prog w) A (execs orelse env) (fun f s₃ => R (.ok f) s₃) (notedBy (model prog w) A env fun e s' => R (.error e) s') { s with heap := h, toks := tk }) :
    wpAny (model prog w) A (call (.type "enumerate") [.ref la]) (fun x s₁ => wpAny (model prog w) A (pyIter x) (fun it s₂ => codeAny (model prog w) A (.forLoop (.Tuple elts kt pt) it body orelse env) R s₂) E s₁) E s := by
  refine call_enumerate_1 (S.base hl) fun h₁ he hit hz kk1 => ?_
  refine wpAny_pyIter_enum he ?_
  generalize hit0 : s.heap.objs.size = it at he hit ⊢
  have hei : it + 1 ≠ it := Nat.succ_ne_self it
  have hle : la ≠ it + 1 := fun q => by have := Heap.lt_size (S.base hl); rw [q, hit0] at this; exact absurd this (Nat.not_lt.mpr (Nat.le_succ it))
  have hli : la ≠ it := fun q => by have := Heap.lt_size (S.base hl); rw [q, hit0] at this; exact absurd this (Nat.lt_irrefl it)
  generalize he0 : it + 1 = e at he hei hle ⊢
  have W := WalksT.enumerate (prog := prog) (w := w) hh e it la hei hle hli arr.toArray
  have sz : arr.toArray.size = arr.length := by simp
  rw [sz] at W
  have none_it : s.heap.get? it = none := hit0 ▸ get_size _
  have none_e : s.heap.get? e = none := Heap.get?_none_of_le (by rw [← he0, hit0]; exact Nat.le_succ _)
  obtain ⟨oi, hoi, hoic, hoid⟩ := id hit
  have S1 : St w h₀ L cl l lc ((it, oi) :: news) h₁ := S.fresh none_it kk1 hoi
  obtain ⟨oe, hoe, hoed⟩ : ∃ oe, h₁.get? e = some oe ∧ ∃ vs, oe.data = .fields vs := ⟨_, he, _, rfl⟩
  have S2 : St w h₀ L cl l lc ((e, oe) :: (it, oi) :: news) h₁ := by
    refine S1.addl hoe (fun q => ?_) ?_ ?_
    · obtain ⟨oL, _, _, hL, _⟩ := S.here; rw [← q, none_e] at hL; cases hL
    · cases q : h₀.get? e with
      | none => rfl
      | some o => have := S.base q; rw [none_e] at this; cases this
    · intro hm
      rw [List.map_cons] at hm
      rcases List.mem_cons.mp hm with q | hm
      · exact hei q
      · obtain ⟨p, hp, q⟩ := List.mem_map.mp hm
        have := (S.nw p hp).1
        rw [q, none_e] at this; cases this
  have It0 : (∃ old, IsEnum h₁ e it ((0 : Nat) : Int) old) ∧ h₁.IsListIter it la 0 ∧ h₁.IsList la arr.toArray := ⟨⟨_, he⟩, hit, ⟨_, kk1 _ _ (S.base hl), rfl, kk, rfl⟩⟩
  have hit' : ∀ i h, ((∃ old, IsEnum h e it ((i : Nat) : Int) old) ∧ h.IsListIter it la i ∧ h.IsList la arr.toArray) → (∃ oe, h.get? e = some oe ∧ ∃ vs, oe.data = .fields vs) ∧ ∃ oi, h.get? it = some oi ∧ ∃ vs, oi.data = .fields vs := by
    rintro i h ⟨⟨old, x⟩, ⟨o, y1, y2, y3⟩, _⟩
    exact ⟨⟨_, x, _, rfl⟩, ⟨o, y1, _, y3⟩⟩
  clear he hit hoi hoic hoid hoe S1 hz none_e none_it
  refine codeAny_forLoop_any (fun k s' => ∃ i h₀' l lc news h tk oe oi, s' = { s with heap := h, toks := tk } ∧ h₀.StaysIn h₀' ∧ J i h₀' l lc news ∧ St w h₀' L cl l lc ((e, oe) :: (it, oi) :: news) h ∧ ((∃ old, IsEnum h e it ((i : Nat) : Int) old) ∧ h.IsListIter it la i ∧ h.IsList la arr.toArray) ∧ i ≤ arr.length ∧ k = arr.length + 1 - i) ?_ (arr.length + 1)
    ⟨0, h₀, l, lc, news, h₁, s.toks, oe, oi, rfl, stays_refl, h0, S2, It0, Nat.zero_le _, rfl⟩
  rintro k s' ⟨i, h₀', l, lc, news, h, tk, oe, oi, rfl, hk0, hJ, S, hI, hi, rfl⟩
  have flds : ∀ {h : Heap} {i : Nat} {oe oi : Obj} {h₀' l lc news}, St w h₀' L cl l lc ((e, oe) :: (it, oi) :: news) h → ((∃ old, IsEnum h e it ((i : Nat) : Int) old) ∧ h.IsListIter it la i ∧ h.IsList la arr.toArray) → (∃ vs, oe.data = .fields vs) ∧ ∃ vs, oi.data = .fields vs := by
    intro h i oe oi h₀' l lc news S hI
    obtain ⟨⟨oe', e1, e2⟩, oi', e3, e4⟩ := hit' _ _ hI
    have a1 := S.new (.head _)
    have a2 := S.new (.tail _ (.head _))
    rw [e1] at a1; cases a1
    rw [e3] at a2; cases a2
    exact ⟨e2, e4⟩
  obtain ⟨fe, fi⟩ := flds S hI
  have nc : ∀ p ∈ [(e, oe), (it, oi)], ∀ v, p.2.data ≠ .cell v := by
    intro p hp v q
    rcases List.mem_cons.mp hp with rfl | hp
    · obtain ⟨_, x⟩ := fe; rw [show oe.data = _ from x] at q; cases q
    · rw [List.mem_singleton.mp hp] at q; obtain ⟨_, x⟩ := fi; rw [show oi.data = _ from x] at q; cases q
  by_cases hlt : i < arr.length
  · refine W.item i _ _ _ hlt hI fun T vals h₁ tk₁ hP hle' hT hM hk₁ => ?_
    refine W.go elts kt pt i T _ _ _ hM fun h₂ hI₂ hk₂ => ?_
    obtain ⟨t, x, hx, rfl⟩ := hP
    obtain ⟨⟨oe2, e1, e2⟩, oi2, e3, e4⟩ := hit' _ _ hI₂
    have hT2 : h₂.IsTuple T [Value.int (i : Int) t, x].toArray := by
      obtain ⟨o, t1, t2⟩ := hT
      exact ⟨o, hk₂ _ _ (W.apart _ _ _ hM) t1, t2⟩
    have S₂ : St w h₀' L cl l lc ((e, oe2) :: (it, oi2) :: news) h₂ :=
      S.turns (n1 := [(e, oe), (it, oi)]) (n2 := [(e, oe2), (it, oi2)]) rfl nc (fun b x hb hx => hk₂ _ _ (by simpa using hb) (hk₁ _ _ (by simpa using hb) hx)) (by
        intro p hp
        rcases List.mem_cons.mp hp with rfl | hp
        · exact e1
        · rw [List.mem_singleton.mp hp]; exact e3)
    refine wpAny_mono (turn i x T t h₀' l lc news h₂ tk₁ e oe2 it oi2 e2 e4 (by simpa using hx) hk0 hT2 hJ S₂) (fun _ s₂ h₂' => wpAny_mono h₂' (fun f s₃ h₃ => ?_) fun _ _ e => e) fun _ _ e => e
    have go : (TurnedE w s h₀' L cl (J (i + 1)) e oe2 it oi2 s₃) →
        ∃ m, m < arr.length + 1 - i ∧ ∃ i h₀' l lc news h tk oe oi, s₃ = { s with heap := h, toks := tk } ∧ h₀.StaysIn h₀' ∧ J i h₀' l lc news ∧ St w h₀' L cl l lc ((e, oe) :: (it, oi) :: news) h ∧ ((∃ old, IsEnum h e it ((i : Nat) : Int) old) ∧ h.IsListIter it la i ∧ h.IsList la arr.toArray) ∧ i ≤ arr.length ∧ m = arr.length + 1 - i := by
      rintro ⟨h₀'', l', lc', news', h', tk', e', hk3, hJ', S'⟩
      refine ⟨arr.length + 1 - (i + 1), by (first | exact omq13 _ _ hlt | omega), i + 1, h₀'', l', lc', news', h', tk', oe2, oi2, e', stays_trans hk0 hk3, hJ', S', W.frame _ _ _ hI₂ fun b hb x ex => ?_, hlt, rfl⟩
      rcases List.mem_cons.mp hb with rfl | hb
      · rw [e1] at ex; cases ex; exact S'.new (.head _)
      · rcases List.mem_cons.mp hb with rfl | hb
        · rw [e3] at ex; cases ex; exact S'.new (.tail _ (.head _))
        · rw [List.mem_singleton.mp hb] at ex ⊢
          have q1 := S₂.base (hk0 _ _ hl)
          rw [q1] at ex; cases ex
          exact S'.base (stays_trans hk0 hk3 _ _ hl)
    cases f with
    | next => exact go h₃
    | cont => exact go h₃
    | brk => exact h₃
    | ret v => exact h₃
  · have hin : i = arr.length := by (first | exact omq14 _ _ hi hlt | omega)
    subst hin
    refine W.done _ _ _ hI fun h₂ tk₂ hk₂ => ?_
    exact done h₀' l lc news h₂ tk₂ hk0 hJ (S.buts (n1 := [(e, oe), (it, oi)]) nc (fun b x hb hx => hk₂ _ _ (by simpa using hb) hx))
/-- a for over a range -/
theorem forRangeI {target : Expr} {body orelse : List Stmt} {env : Env} {R : Result → Shared → Prop} {n : Nat} {r : Addr} {a c b : Int} {t u v : Tok}
    (J : Nat → Heap → List (Str × Value) → List (Str × Option Value) → List (Addr × Obj) → Prop)
    (S : St w h₀ L cl l lc news s.heap) (hh : A.handled = none) (hr : IsRange s.heap r a b c t u v) (hn : Builtin.Range.rangeSize a b c = n) (hsm : Builtin.Range.small a b c = true) (h0 : J 0 h₀ l lc news)
    (turn : ∀ i t h₀ l lc news h tk I o, (∃ vs, o.data = .fields vs) → i < n → J i h₀ l lc news → St w h₀ L cl l lc ((I, o) :: news) h →
      wpAny (model prog w) A (assign target env (.int (a + i * c) t)) (fun _ s₂ => wpAny (model prog w) A (execs body env) (fun f s₃ => match f with
          | .next => Turned w s L cl (J (i + 1)) I o s₃
          | .cont => Turned w s L cl (J (i + 1)) I o s₃
          | .brk => R (.ok .next) s₃
          | .ret v => R (.ok (.ret v)) s₃)
        (notedBy (model prog w) A env fun e s' => R (.error e) s') s₂) (notedBy (model prog w) A env fun e s' => R (.error e) s') { s with heap := h, toks := tk })
    (done : ∀ h₀ l lc news h tk, J n h₀ l lc news → St w h₀ L cl l lc news h →
      wpAny (model prog w) A (execs orelse env) (fun f s₃ => R (.ok f) s₃) (notedBy (model prog w) A env fun e s' => R (.error e) s') { s with heap := h, toks := tk })
    (hgo : ∀ I v, letOwnedTupleGo target (.ref I) v = pure () := by intro _ _; rfl) :
    wpAny (model prog w) A (pyIter (.ref r)) (fun it s₂ => codeAny (model prog w) A (.forLoop target it body orelse env) R s₂) E s := by
  refine wpAny_pyIter_range hr hsm ?_
  rw [hn]
  refine loopW (s₀ := s) (Walks.range (prog := prog) (w := w) hh _ a c n) (fun _ => default) (fun i h hI => ⟨_, hI, _, rfl⟩) J (fun i h₀ l lc news h hJ S b hb hne => absurd (List.mem_singleton.mp hb) hne) (fun i v Q E s' hI hQ => wpAny_of_eq (hgo _ v) hQ) (fun i v h₀ l lc news h tk o hi hof hP hJ S => ?_) (fun h₀ l lc news h tk hJ S => done h₀ l lc news h tk hJ S) h0 (S.push _ rfl) ?_
  · obtain ⟨t', rfl⟩ := hP
    exact turn i t' h₀ l lc news h tk _ o hof hi hJ S
  · show IsRangeIter _ _ _ _ _
    unfold IsRangeIter
    rw [Heap.get?_push_size _ rfl]
    simp
end

/-! QR10 -/
section
variable {prog : Program} {w : World} {A : Around} {E : Value → Shared → Prop} {s : Shared} {h₀ h h' : Heap} {L : Addr} {env : Env} {cl : List (Str × Addr)} {l : List (Str × Value)} {lc : List (Str × Option Value)} {news : List (Addr × Obj)}

theorem rAddL {a b : Addr} {xs ys : List Value} {k1 k2 : Nat} {Q : Value → Shared → Prop} (S : St w h₀ L cl l lc news s.heap) (ha : s.heap.get? a = some (lstO xs k1)) (hb : s.heap.get? b = some (lstO ys k2)) (hz : xs.length + ys.length ≤ sizeLine)
    (h : ∀ c h', s.heap.StaysIn h' → s.heap.get? c = none → St w h₀ L cl l lc ((c, lstO (xs ++ ys) 0) :: news) h' → Q (.ref c) { s with heap := h' }) :
    wpAny (model prog w) A (binaryOp .Add (.ref a) (.ref b)) Q E s := by
  refine P.add_list ha hb ?_ (by simpa using hz)
  have e : xs.toArray ++ ys.toArray = (xs ++ ys).toArray := by simp
  rw [e]
  exact h _ _ (stays_push _) (get_size _) (S.push _ rfl)

/-- {'x': v} -/
theorem rDict1 {x : Str} {n : Nat} {pk pos : Pos} {ve : Expr} {Q : Value → Shared → Prop} (S : St w h₀ L cl l lc news s.heap)
    (h : ∀ d h1, s.heap.StaysIn h1 → s.heap.get? d = none → (d == sysModules) = false → St w h₀ L cl l lc ((d, { cls := .type "dict", data := .dict #[] }) :: news) h1 → wpAny (model prog w) A (eval (.Constant (.str x) n pk) env) (fun kv0 s₁ => wpAny (model prog w) A (eval ve env) (fun vv s₂ =>
      (∃ t, kv0 = .str x t) ∧ s₂.heap.get? d = some { cls := .type "dict", data := .dict #[] } ∧ ∀ h' tk t k, Heap.SameBut d s₂.heap h' → h'.get? d = some (dictOf [kv w x t vv] k) → Q (.ref d) { s₂ with heap := h', toks := tk }) E s₁) E { s with heap := h1 }) :
    wpAny (model prog w) A (eval (.Dict [some (.Constant (.str x) n pk)] [ve] pos) env) Q E s := by
  refine wpAny_Dict_walk (knd := strKind prog w) rfl rfl (by simp) (by simp) ?_
  refine pairTrees_cons_walk ?_
  have h59 := Heap.lt_size (get59 S.kin)
  refine wpAny_mono (h _ _ (stays_push _) (get_size _) (beq_eq_false_iff_ne.mpr fun q => by rw [q] at h59; exact absurd h59 (by decide)) (S.push _ rfl)) (fun kv0 s₁ h₁ => wpAny_mono h₁ (fun vv s₂ h₂ => evalPairs_nil ?_) fun _ _ e => e) fun _ _ e => e
  obtain ⟨⟨t, rfl⟩, e0, hq⟩ := h₂
  refine ⟨[(x, vv)], ⟨strKind_is prog w x t, rfl, trivial⟩, ⟨_, #[], 0, e0, ⟨rfl, rfl, rfl⟩, rfl, (fun e he => absurd he (by simp)), .nil, List.nodup_nil⟩, fun h' hd hs => ?_⟩
  obtain ⟨o, es, ep, e1, ex, ed, ek, epr, nd⟩ := hd
  obtain ⟨c, dd, dat, sl⟩ := o
  obtain ⟨x1, x2, x3⟩ := ex
  dsimp only at x1 x2 x3 ed
  subst x1 x2 x3 ed
  obtain ⟨es⟩ := es
  have epr' : Pairs (strKind prog w) es [(x, vv)] := epr
  obtain ⟨en, rfl⟩ : ∃ en, es = [en] := by
    cases epr' with
    | cons a b c => cases c; exact ⟨_, rfl⟩
  have hkey : (strKind prog w).is x en.key = true ∧ en.val = vv := by
    cases epr' with
    | cons a b c => exact ⟨a, b⟩
  obtain ⟨y, hy, hh⟩ := ek en (by simp)
  obtain ⟨eh, ekey, ev⟩ := en
  dsimp only at hkey hy hh
  obtain ⟨hk1, rfl⟩ := hkey
  have : y = x := (PySem.strKind prog w).inj _ _ _ hy hk1
  subst this
  obtain ⟨t', rfl⟩ : ∃ t', ekey = .str y t' := by
    cases ekey <;> simp [PySem.strKind, Value.isStrOf] at hk1
    exact ⟨_, by rw [hk1]⟩
  subst hh
  exact hq h' _ t' ep hs e1
end

/-! QL8 -/
section
variable {prog : Program} {w : World} {A : Around} {Q E : Value → Shared → Prop} {s : Shared} 
/-- a row of the shelf -/
noncomputable def rowItems (rs : List PRow) (ord : Bool) (i : Nat) : List Item := match rs[i]? with
  | some r => (if ord = true then (if r.k = 2 then [.lab (byteArr [65 + (i : Int)])] else []) else [.nm (wordOf r)]) ++ (List.replicate r.c (.ref ((10 + (i + 1) % rs.length : Nat) : Int)) ++ r.gs.map fun g => .ref ((g : Nat) : Int))
  | none => []
noncomputable def rowsOf (rs : List PRow) (ord : Bool) : Int → Option (List Item) := fun n => if 10 ≤ n ∧ n < 10 + (rs.length : Int) then some (rowItems rs ord (n - 10).toNat) else none
noncomputable def Ent (w : World) (N : Heap) (rs : List PRow) (ord : Bool) (n : Int) (o : Addr) : Prop := (1 ≤ n → n ≤ 4 → IsGrp w N o) ∧ ∀ i : Nat, i < rs.length → n = 10 + (i : Int) → ∃ arr k, N.get? o = some (lstO arr k) ∧ Its w N arr (rowItems rs ord i)
noncomputable def TabIs (w : World) (rs : List PRow) (ord : Bool) (N : Heap) : List (Int × Value) → List Int → Prop
  | [], [] => True
  | (k, v) :: r, n :: ns => k = n ∧ (∃ tp t m o, v = .ref tp ∧ N.get? tp = some (tupO [.int 0 t, .ref o] m) ∧ Ent w N rs ord n o) ∧ TabIs w rs ord N r ns
  | _, _ => False
variable {N N' : Heap} {rs : List PRow} {ord : Bool}
theorem Ent.keep {n : Int} {o : Addr} (x : Ent w N rs ord n o) (k : N.StaysIn N') : Ent w N' rs ord n o :=
  ⟨fun a b => (x.1 a b).keep k, fun i a b => (by obtain ⟨arr, kk, e1, e2⟩ := x.2 i a b; exact ⟨arr, kk, k _ _ e1, e2.keep k⟩)⟩
theorem TabIs.keep (k : N.StaysIn N') : ∀ {kvs : List (Int × Value)} {ns : List Int}, TabIs w rs ord N kvs ns → TabIs w rs ord N' kvs ns
  | [], [], _ => trivial
  | (_, _) :: _, _ :: _, ⟨e, ⟨tp, t, m, o, e1, e2, e3⟩, r⟩ => ⟨e, ⟨tp, t, m, o, e1, k _ _ e2, e3.keep k⟩, TabIs.keep k r⟩
  | [], _ :: _, x => x
  | _ :: _, [], x => x
theorem TabIs.snoc {n : Int} {tp o : Addr} {t : Tok} {m : Nat} (e2 : N.get? tp = some (tupO [.int 0 t, .ref o] m)) (e3 : Ent w N rs ord n o) : ∀ {kvs : List (Int × Value)} {ns : List Int}, TabIs w rs ord N kvs ns → TabIs w rs ord N (kvs ++ [(n, .ref tp)]) (ns ++ [n])
  | [], [], _ => ⟨rfl, ⟨tp, t, m, o, rfl, e2, e3⟩, trivial⟩
  | (_, _) :: _, _ :: _, ⟨e, a, r⟩ => ⟨e, a, TabIs.snoc e2 e3 r⟩
  | [], _ :: _, x => x.elim
  | _ :: _, [], x => x.elim
theorem TabIs.keys : ∀ {kvs : List (Int × Value)} {ns : List Int}, TabIs w rs ord N kvs ns → kvs.map (·.1) = ns
  | [], [], _ => rfl
  | (_, _) :: _, _ :: _, ⟨e, _, r⟩ => by rw [List.map_cons, TabIs.keys r, e]
  | [], _ :: _, x => x.elim
  | _ :: _, [], x => x.elim
theorem TabIs.at : ∀ {kvs : List (Int × Value)} {ns : List Int}, TabIs w rs ord N kvs ns → ∀ n, n ∈ ns → ∃ tp t m o, valueAt kvs n = some (.ref tp) ∧ N.get? tp = some (tupO [.int 0 t, .ref o] m) ∧ Ent w N rs ord n o
  | [], [], _, _, h => nomatch h
  | (k, v) :: r, n :: ns, ⟨e, ⟨tp, t, m, o, e1, e2, e3⟩, x⟩, n', h => by
    by_cases q : k = n'
    · subst q; subst e
      exact ⟨tp, t, m, o, by simp [valueAt, e1], e2, e3⟩
    · rcases List.mem_cons.mp h with q2 | h
      · exact absurd (e.trans q2.symm) q
      · obtain ⟨tp', t', m', o', f1, f2, f3⟩ := TabIs.at x n' h
        exact ⟨tp', t', m', o', by rw [← f1]; simp [valueAt, q], f2, f3⟩
  | [], _ :: _, x, _, _ => x.elim
  | _ :: _, [], x, _, _ => x.elim
theorem pick_all {α β : Type} {P : α → β → Prop} (h : ∀ a, ∃ b, P a b) : ∃ f : α → β, ∀ a, P a (f a) := ⟨fun a => (h a).choose, fun a => (h a).choose_spec⟩
/-- the shelf from its table -/
theorem shelf_of {sh dsh tb tr : Addr} {t1 t2 : Tok} {k : Nat} {o : Obj} {kvs : List (Int × Value)} (e1 : N.get? sh = some (instObj 363 dsh)) (e2 : N.get? dsh = some (dictOf [kv w "table" t1 (.ref tb), kv w "trailer" t2 (.ref tr)] k)) (e3 : N.get? tb = some o) (hd : o.IsDictOf (intKind prog w) kvs) (lo : (tb == sysModules) = false)
    (ht : TabIs w rs ord N kvs ([1, 2, 3, 4] ++ (List.range rs.length).map fun j => 10 + ((j : Nat) : Int))) : ShelfAt prog w N sh (rowsOf rs ord) := by
  have H : ∀ n : Int, ∃ x : Option Addr, ∀ o, x = some o → ∃ tp t m, valueAt kvs n = some (.ref tp) ∧ N.get? tp = some (tupO [.int 0 t, .ref o] m) := by
    intro n
    exact ⟨none, fun o e => nomatch e⟩
  have H2 : ∀ n : Int, ∃ x : Option Addr, (∀ o, x = some o → ∃ tp t m, valueAt kvs n = some (.ref tp) ∧ N.get? tp = some (tupO [.int 0 t, .ref o] m)) ∧ (n ∈ ([1, 2, 3, 4] ++ (List.range rs.length).map fun j => 10 + ((j : Nat) : Int)) → ∃ o, x = some o ∧ Ent w N rs ord n o) := by
    intro n
    by_cases hm : n ∈ ([1, 2, 3, 4] ++ (List.range rs.length).map fun j => 10 + ((j : Nat) : Int))
    · obtain ⟨tp, t, m, o, f1, f2, f3⟩ := ht.at n hm
      exact ⟨some o, fun o' e => by cases e; exact ⟨tp, t, m, f1, f2⟩, fun _ => ⟨o, rfl, f3⟩⟩
    · exact ⟨none, (fun o e => nomatch e), fun h => absurd h hm⟩
  obtain ⟨g, hg⟩ := pick_all H2
  refine ⟨⟨g, ⟨dsh, tb, .ref tr, t1, t2, k, valueAt kvs, e1, e2, (Heap.dictOf_iff.mpr ⟨o, e3, hd⟩ : N.DictOf (intKind prog w) tb kvs).mapOf, lo, fun n o e => ?_⟩, fun n h1 h4 => ?_, fun n its e => ?_⟩⟩
  · obtain ⟨tp, t, m, f1, f2⟩ := (hg n).1 o e
    exact ⟨tp, t, m, f1, f2⟩
  · obtain ⟨o, f1, f2⟩ := (hg n).2 (List.mem_append_left _ (by
      rcases (by (first | exact omq287 _ h1 h4 | omega) : n = 1 ∨ n = 2 ∨ n = 3 ∨ n = 4) with rfl | rfl | rfl | rfl <;> simp))
    exact ⟨o, f1, f2.1 h1 h4⟩
  · unfold rowsOf at e
    split at e
    · rename_i hn
      cases e
      have hlt : (n - 10).toNat < rs.length := by (first | exact omq288 _ _ hn | omega)
      have hnn : n = 10 + (((n - 10).toNat : Nat) : Int) := by (first | exact omq289 _ _ hn | omega)
      obtain ⟨o, f1, f2⟩ := (hg n).2 (List.mem_append_right _ (List.mem_map.mpr ⟨(n - 10).toNat, List.mem_range.mpr hlt, hnn.symm⟩))
      obtain ⟨arr, kk, f3, f4⟩ := f2.2 _ hlt hnn
      exact ⟨o, arr, kk, f1, f3, f4⟩
    · cases e
end

/-! QL9 -/
section
variable {prog : Program} {w : World} {A : Around} {Q E : Value → Shared → Prop} {s : Shared} 
theorem its_rep {N : Heap} {v : Value} {it : Item} (x : ItemIs w N v it) : ∀ c : Nat, Its w N (List.replicate c [v]).flatten (List.replicate c it)
  | 0 => trivial
  | c + 1 => by rw [List.replicate_succ, List.replicate_succ, List.flatten_cons]; exact ⟨x, its_rep x c⟩
end
namespace law_shelfC
noncomputable abbrev V := Program × World × Around × (Value → Shared → Prop) × (Value → Shared → Prop) × Shared × Addr × List Value × Nat × List PRow × Bool
noncomputable def P (prog : Program) (w : World) (A : Around) (Q : Value → Shared → Prop) (E : Value → Shared → Prop) (s : Shared) (p : Addr) (vs : List Value) (kp : Nat) (rs : List PRow) (ord : Bool) : Prop := ∀ (W : Wd w s.heap) (R : Rm A 6 40) (hp : s.heap.get? p = some (lstO vs kp)) (hpl : PlanIs s.heap vs rs) (hn0 : 0 < rs.length) (hn : rs.length ≤ 23) (hg : ∀ (j : Nat) (r : PRow), rs[j]? = some r → r.k ≤ 2 ∧ r.gs.length ≤ 2 ∧ r.c ≤ 3) (hret : ∀ h' tk' sh, s.heap.StaysIn h' → ShelfAt prog w (newer s.heap h') sh (rowsOf rs ord) → Q (.ref sh) { s with heap := h', toks := tk' }), wpAny (model prog w) A (call (.ref 442) [.ref p, .bool ord]) Q E s
noncomputable def wc : V := worst (α := V) (default, Cx.one.w, {}, fun _ _ => True, fun _ _ => True, Cx.one.s, (0 : Nat), [], (0 : Nat), [], false) (fun _ : V => (0 : Nat)) fun v => P v.1 v.2.1 v.2.2.1 v.2.2.2.1 v.2.2.2.2.1 v.2.2.2.2.2.1 v.2.2.2.2.2.2.1 v.2.2.2.2.2.2.2.1 v.2.2.2.2.2.2.2.2.1 v.2.2.2.2.2.2.2.2.2.1 v.2.2.2.2.2.2.2.2.2.2
noncomputable def prog : Program := wc.1
noncomputable def w : World := wc.2.1
noncomputable def A : Around := wc.2.2.1
noncomputable def Q : Value → Shared → Prop := wc.2.2.2.1
noncomputable def E : Value → Shared → Prop := wc.2.2.2.2.1
noncomputable def s : Shared := wc.2.2.2.2.2.1
noncomputable def p : Addr := wc.2.2.2.2.2.2.1
noncomputable def vs : List Value := wc.2.2.2.2.2.2.2.1
noncomputable def kp : Nat := wc.2.2.2.2.2.2.2.2.1
noncomputable def rs : List PRow := wc.2.2.2.2.2.2.2.2.2.1
noncomputable def ord : Bool := wc.2.2.2.2.2.2.2.2.2.2
theorem at_c (W : Wd w s.heap) (R : Rm A 6 40) (hp : s.heap.get? p = some (lstO vs kp)) (hpl : PlanIs s.heap vs rs) (hn0 : 0 < rs.length) (hn : rs.length ≤ 23) (hg : ∀ (j : Nat) (r : PRow), rs[j]? = some r → r.k ≤ 2 ∧ r.gs.length ≤ 2 ∧ r.c ≤ 3) (hret : ∀ h' tk' sh, s.heap.StaysIn h' → ShelfAt prog w (newer s.heap h') sh (rowsOf rs ord) → Q (.ref sh) { s with heap := h', toks := tk' }) : wpAny (model prog w) A (call (.ref 442) [.ref p, .bool ord]) Q E s := by
  (refine' enter0 ?W ?ho ?hcd ?hroom ?hb ?hloc ?_ ?c1 ?c2 ?c3 ?c4; (case W => assumption); (case ho => k_is); (case hcd => k_is); (case hroom => exact Rm.room (by assumption)); (case hb => first | exact BindsTo.of_eq rfl | exact binds_K (Wd.K (by assumption)) rfl (by k_is) rfl rfl rfl); (case hloc => exact locs rfl); (case c1 => exact rfl); (case c2 => exact rfl); (case c3 => exact rfl); (case c4 => decide); intro _ _ _; (try dsimp only))
  rename St _ _ _ _ _ _ _ _ => S
  replace S := S.names (l' := [("is_order", .bool ord), ("plan", .ref p)]) ⟨rfl, rfl, trivial⟩
  repeat (walk_at "st")
  rename St _ _ _ _ _ _ _ _ => S
  refine mkShelf S (R.dp (d' := 0) (u' := 0)) fun h' hs tk sh dsh tb tr t1 t2 k o ks S ho0 gsh gdsh gtb hsh hdsh lo => ?_
  repeat (walk_at "st")
  rename St _ _ _ _ _ _ _ _ => S
  refine call_range_2 ?_
  refine forRangeI (n := 4) (fun i h₀' l lc news => lc = [] ∧ ∃ o kvs, news = [(tb, o)] ∧ hs.StaysIn h₀' ∧ o.IsDictOf (intKind prog w) kvs ∧ TabIs w rs ord (newer s.heap h₀') kvs ((List.range i).map fun j => 1 + ((j : Nat) : Int)) ∧ Sub l [("shelf", .ref sh), ("is_order", .bool ord), ("plan", .ref p)]) (S.keeps (stays_push _)) R.hh (IsRange.new _ _ _ _ _ _ _) (by rw [rangeSize_one]; decide) (by decide) ⟨rfl, o, [], rfl, stays_refl, ho0, trivial, ⟨rfl, rfl, rfl, trivial⟩⟩ ?_ ?_
  · intro i t h₀' l lc news h4 tk4 I oI hof hi hJ S
    obtain ⟨rfl, o, kvs, rfl, kk, ho, hti, hsub⟩ := hJ
    replace S := S.names hsub
    have hsh' := kk _ _ hsh
    have hdsh' := kk _ _ hdsh
    rw [Int.mul_one]
    repeat (walk_at "st")
    rename St _ _ _ _ _ _ _ _ => S
    refine rDict1 S fun d h1 k1 n1 lod S => ?_
    repeat (walk_at "st")
    rename St _ _ _ _ _ _ _ _ => S
    refine mkNm S.wdh (R.dp (d' := 0) (u' := 0)) fun h' tk a k2 hnm => ?_
    have g0 := stays_trans ks kk
    obtain ⟨h2, S2, k3, kN⟩ := S.adopt2 k2
    have hnm2 := hnm.keep (kN s.heap (stays_trans g0 S.out))
    refine ⟨⟨_, rfl⟩, S2.new (.head _), fun h3 tk3 t3 k3' hs3 hd3 => ?_⟩
    have S3 := S2.upd' (pre := []) (fun v q => nomatch q) hs3 hd3
    clear S S2
    have gd := fresh_of_stays (stays_trans g0 k3) (S3.nw _ (.head _)).2.2
    obtain ⟨h4', S4, k4, hd4⟩ := S3.rest (fun v q => nomatch q)
    clear S3
    have hkl : kvs.length = i := by have := congrArg List.length hti.keys; simpa using this
    repeat (walk_at "st")
    rename St _ _ _ _ _ _ _ _ => S
    refine put_st (pre := [(I, oI)]) (post := []) S R.dp (k4 _ _ (k3 _ _ hsh')) (k4 _ _ (k3 _ _ hdsh')) ho (by
      rw [hti.keys]; intro hm; obtain ⟨j, hj, e⟩ := List.mem_map.mp hm; have := List.mem_range.mp hj; (first | exact (omq290 _ _ _ hkl e this).elim | omega)) (by (first | exact omq291 _ _ hi hkl | omega)) fun h5 h5' tk5 o5 tp t5 m5 k5 S5 ho5 n5 e5 => ?_
    repeat (walk_at "st")
    have k35 := stays_trans k3 (stays_trans k4 k5)
    refine ⟨_, _, _, _, _, _, rfl, ⟨rfl, o5, _, rfl, stays_trans kk k35, ho5, ?_, ⟨rfl, rfl, rfl, trivial⟩⟩, S5⟩
    rw [List.range_succ, List.map_append]
    exact (hti.keep (newer_mono k35)).snoc (newer_get e5 (fresh_of_stays (stays_trans g0 (stays_trans k3 k4)) n5)) ⟨fun a b => ⟨_, t3, k3', newer_get (k5 _ _ hd4) gd, hnm2.keep (newer_mono (stays_trans k4 k5)), lod⟩, fun j hj e => absurd e (by (first | exact omq292 _ _ _ hi hkl e | omega))⟩
  · intro h₀' l lc news h6 tk6 hJ S
    obtain ⟨rfl, o, kvs, rfl, kk, ho, hti, hsub⟩ := hJ
    replace S := S.names hsub
    repeat (walk_at "st")
    rename St _ _ _ _ _ _ _ _ => S
    have g0 := stays_trans ks kk
    have hplN := hpl.keep g0
    refine forEnum (fun i h₀' l lc news => lc = [] ∧ ∃ o kvs, news = [(tb, o)] ∧ hs.StaysIn h₀' ∧ o.IsDictOf (intKind prog w) kvs ∧ TabIs w rs ord (newer s.heap h₀') kvs ([1, 2, 3, 4] ++ (List.range i).map fun j => 10 + ((j : Nat) : Int)) ∧ Sub l [("shelf", .ref sh), ("is_order", .bool ord), ("plan", .ref p)]) S R.hh (g0 _ _ hp) ⟨rfl, o, kvs, rfl, kk, ho, hti, ⟨rfl, rfl, rfl, trivial⟩⟩ ?_ ?_
    · intro i v T t h₀' l lc news h7 tk7 e oe it oi hoe hoi hv hk0 hT hJ S
      obtain ⟨rfl, o, kvs, rfl, kk, ho, hti, hsub⟩ := hJ
      replace S := S.names hsub
      have hsh' := kk _ _ hsh
      have hdsh' := kk _ _ hdsh
      obtain ⟨r, hr, T2, ga, gv, tc, tkk, kg, m, rfl, q1, q2, q3⟩ := hpl.get hv
      refine rUnpT S R.hh hT rfl rfl fun h8 k8 S => ?_
      repeat (walk_at "st")
      rename St _ _ _ _ _ _ _ _ => S
      have g1 := stays_trans ks kk
      refine rUnp S R.hh (S.base (g1 _ _ q1)) rfl rfl fun h9 k9 S => ?_
      have hvl := hpl.length
      have hgv : gv.length = r.gs.length := by rw [q3.length, List.length_map]
      obtain ⟨hk2, hgs2, hc3⟩ := hg i r hr
      have hilt : i < rs.length := (List.getElem?_eq_some_iff.mp hr).1
      repeat (walk_at "st")
      rename St _ _ _ _ _ _ _ _ => S
      refine rLenL (S.base (g1 _ _ hp)) (by (first | exact omq293 _ _ hn0 hn hvl | omega)) ?_
      repeat (walk_at "st")
      have hmod : (10 : Int) + ((i : Int) + 1).fmod (vs.length : Int) = ((10 + (i + 1) % rs.length : Nat) : Int) := by
        rw [hvl, show ((i : Int) + 1) = ((i + 1 : Nat) : Int) by (first | exact omq294 _ | omega), Int.fmod_eq_emod_of_nonneg _ (by (first | exact omq295 _ _ hn0 hn hvl | omega)), ← Int.natCast_emod]
        generalize (i + 1) % rs.length = x
        (first | exact omq296 _ | omega)
      rename St _ _ _ _ _ _ _ _ => S
      rw [hmod]
      refine mkRef S.wdh (R.dp (d' := 0) (u' := 0)) fun h' tk a k2 hra => ?_
      obtain ⟨h2, S2, k3, kN⟩ := S.adopt2 k2
      have hra2 := hra.keep (kN s.heap (stays_trans g1 S.out))
      clear S
      repeat (walk_at "st")
      rename St _ _ _ _ _ _ _ _ => S
      refine rMulL (x := r.c) S (S.new (.head _)) (by (first | exact omq297 _ hc3 | omega)) (by simp; (first | exact omq298 _ hc3 | omega)) fun am h' S => ?_
      replace S := S.snd
      obtain ⟨h3, S3, k4, hm⟩ := S.rest (fun v q => nomatch q)
      clear S
      repeat (walk_at "st")
      refine rLC [] ?_
      repeat (walk_at "st")
      rename St _ _ _ _ _ _ _ _ => S
      have k34 := stays_trans k3 k4
      have hgi : IntsAre gv (r.gs.map fun g => ((g : Nat) : Int)) := q3
      refine lcList (fun i' h₀'' lc' news' acc => lc' = [] ∧ news' = [(e, oe), (it, oi), (tb, o)] ∧ Its w (newer s.heap h₀'') acc ((r.gs.take i').map fun g => .ref ((g : Nat) : Int))) S R.hh (k34 _ _ (g1 _ _ q2)) (by rw [sizeLine_eq]; (first | exact omq299 _ _ hgv hgs2 | omega)) ⟨rfl, rfl, trivial⟩ ?_ ?_
      · intro i' v h₀'' lc' news' h10 tk10 I oI C' D oL kD acc hled hv10 k10 hJ S
        obtain ⟨rfl, rfl, hits⟩ := hJ
        obtain ⟨n, tn, rfl, hn10⟩ := IntsAre.at hgi _ _ hv10
        repeat (walk_at "st")
        refine mkRef S.wdh (R.dp (d' := 0) (u' := 0)) fun h' tk a k11 hra' => ?_
        obtain ⟨h12, S12, k12, kN12⟩ := S.adopt2 k11
        have hra3 := hra'.keep (kN12 s.heap (stays_trans (stays_trans g1 (stays_trans k34 k10)) S.out))
        refine ⟨_, _, _, _, _, rfl, k12, ⟨rfl, rfl, ?_⟩, S12⟩
        rw [List.getElem?_map] at hn10
        obtain ⟨gg, hgg, rfl⟩ := Option.map_eq_some_iff.mp hn10
        rw [List.take_add_one, hgg, List.map_append]
        exact (Its.keep (newer_mono k12) hits).append ⟨⟨a, rfl, hra3⟩, trivial⟩
      · intro h₀'' lc' news' h10 tk10 C' D oC kD acc m' hJ hlen' k10 S hn
        obtain ⟨rfl, rfl, hits⟩ := hJ
        refine fin0 S hn fun h11 S => ?_
        rw [List.take_of_length_le (by rw [hgv]; exact Nat.le_refl _)] at hits
        refine rAddL S (S.base (k10 _ _ hm)) (S.new (.head _)) (by
          have : (List.replicate r.c [Value.ref a]).flatten.length = r.c := by simp
          rw [sizeLine_eq]; (first | exact omq300 _ _ _ _ _ hgv hgs2 hc3 hlen' this | omega)) fun ap h12 k12 np S => ?_
        replace S := S.snd
        obtain ⟨h13, S13, k13, hap⟩ := S.rest (fun v q => nomatch q)
        clear S
        repeat (walk_at "st")
        rename St _ _ _ _ _ _ _ _ => S
        have itsP := (its_rep (w := w) (N := newer s.heap h13) (it := .ref ((10 + (i + 1) % rs.length : Nat) : Int)) ⟨a, rfl, hra2.keep (newer_mono (stays_trans k4 (stays_trans k10 k13)))⟩ r.c).append (Its.keep (newer_mono k13) hits)
        have hkl : kvs.length ≤ 1000 := by
          have := congrArg List.length hti.keys
          rw [List.length_map, List.length_append, List.length_map, List.length_range] at this
          have : kvs.length = 4 + i := this
          (first | exact omq301 _ _ _ _ _ hn0 (by assumption) hvl hilt (by assumption) this | omega)
        have hkey : (10 + (i : Int)) ∉ kvs.map (·.1) := by
          rw [hti.keys]
          intro hm
          rcases List.mem_append.mp hm with hm | hm
          · have : ∀ x ∈ [(1 : Int), 2, 3, 4], x < 10 := by decide
            have := this _ hm
            (first | exact (omq302 _ this).elim | omega)
          · obtain ⟨j, hj, e⟩ := List.mem_map.mp hm
            have := List.mem_range.mp hj
            (first | exact (omq303 _ _ e this).elim | omega)
        have hpl2 : ((List.replicate r.c [Value.ref a]).flatten ++ acc).length ≤ 10 := by
          have : (List.replicate r.c [Value.ref a]).flatten.length = r.c := by simp
          rw [List.length_append]; (first | exact omq304 _ _ _ _ _ hgv hgs2 hc3 hlen' this | omega)
        generalize (List.replicate r.c [Value.ref a]).flatten ++ acc = parr at itsP hap hpl2
        by_cases hord : ord = true
        · refine ite_pos hord ?_
          repeat (walk_at "st")
          by_cases hk : r.k = 2
          · refine ite_pos (by rw [hk]; rfl) ?_
            repeat (walk_at "st")
            rename St _ _ _ _ _ _ _ _ => S
            refine call_bytes_ints (ns := [65 + (i : Int)]) (isL (S.new (.head _))) (.cons _ _ .nil) (by intro n hn; rw [List.mem_singleton.mp hn]; (first | exact omq305 _ _ _ hn0 (by assumption) hvl hilt | omega)) (by simp [sizeLine_eq]) R.hh fun h15 t15 tk15 k15 => ?_
            replace S := S.tail.keeps k15
            repeat (walk_at "st")
            refine mkStr S.wdh (R.dp (d' := 0) (u' := 0)) fun h16 tk16 st k16 hst => ?_
            obtain ⟨h17, S17, kk17, kN17⟩ := S.adopt2 k16
            have hst2 := hst.keep (kN17 s.heap (stays_trans (stays_trans g1 (stays_trans k34 (stays_trans k10 k13))) S.out))
            clear S
            repeat (walk_at "st")
            rename St _ _ _ _ _ _ _ _ => S
            have kk15 := stays_trans k13 kk17
            refine rAddL S (S.new (.head _)) (S.base (kk17 _ _ hap)) (by rw [sizeLine_eq, List.length_singleton]; (first | exact omq306 _ hpl2 | omega)) fun ra h18 k18 n18 S => ?_
            replace S := S.snd
            have gra := fresh_of_stays (stays_trans g1 (stays_trans k34 (stays_trans k10 kk15))) (S.nw _ (.head _)).2.2
            obtain ⟨h14, S14, k14, hra14⟩ := S.rest (fun v q => nomatch q)
            clear S
            have k0_14 : h₀'.StaysIn h14 := stays_trans k34 (stays_trans k10 (stays_trans kk15 k14))
            have hsh14 := k0_14 _ _ hsh'
            have hdsh14 := k0_14 _ _ hdsh'
            repeat (walk_at "st")
            rename St _ _ _ _ _ _ _ _ => S
            refine put_st (pre := [(e, oe), (it, oi)]) (post := []) S R.dp hsh14 hdsh14 ho hkey hkl fun h5 h5' tk5 o5 tp t5 m5 k5 S5 ho5 n5 e5 => ?_
            repeat (walk_at "st")
            refine ⟨_, _, _, _, _, _, rfl, stays_trans k0_14 k5, ⟨rfl, o5, _, rfl, stays_trans kk (stays_trans k0_14 k5), ho5, ?_, ⟨rfl, rfl, rfl, trivial⟩⟩, S5⟩
            rw [List.range_succ, List.map_append, ← List.append_assoc]
            refine (hti.keep (newer_mono (stays_trans k0_14 k5))).snoc (newer_get e5 (fresh_of_stays (stays_trans g1 k0_14) n5)) ⟨fun a b => absurd b (by (first | exact omq307 _ b | omega)), fun j hj e => ?_⟩
            have ej : j = i := by (first | exact omq308 _ _ e | omega)
            subst ej
            refine ⟨_, _, newer_get (k5 _ _ hra14) gra, ?_⟩
            unfold rowItems
            rw [hr]
            dsimp only
            rw [if_pos hord, if_pos hk]
            exact Its.append (vs := [_]) (is := [.lab (byteArr [65 + (j : Int)])]) ⟨⟨st, rfl, hst2.keep (newer_mono (stays_trans k14 k5))⟩, trivial⟩ (Its.keep (newer_mono (stays_trans kk17 (stays_trans k14 k5))) itsP)
          · refine ite_neg (by rw [beq_iff_eq]; (first | exact omq213 _ hk | omega)) ?_
            repeat (walk_at "st")
            rename St _ _ _ _ _ _ _ _ => S
            have kk15 := k13
            refine rAddL S (S.new (.head _)) (S.base hap) (by rw [sizeLine_eq, List.length_nil]; (first | exact omq309 _ hpl2 | omega)) fun ra h18 k18 n18 S => ?_
            replace S := S.snd
            have gra := fresh_of_stays (stays_trans g1 (stays_trans k34 (stays_trans k10 kk15))) (S.nw _ (.head _)).2.2
            obtain ⟨h14, S14, k14, hra14⟩ := S.rest (fun v q => nomatch q)
            clear S
            have k0_14 : h₀'.StaysIn h14 := stays_trans k34 (stays_trans k10 (stays_trans kk15 k14))
            have hsh14 := k0_14 _ _ hsh'
            have hdsh14 := k0_14 _ _ hdsh'
            repeat (walk_at "st")
            rename St _ _ _ _ _ _ _ _ => S
            refine put_st (pre := [(e, oe), (it, oi)]) (post := []) S R.dp hsh14 hdsh14 ho hkey hkl fun h5 h5' tk5 o5 tp t5 m5 k5 S5 ho5 n5 e5 => ?_
            repeat (walk_at "st")
            refine ⟨_, _, _, _, _, _, rfl, stays_trans k0_14 k5, ⟨rfl, o5, _, rfl, stays_trans kk (stays_trans k0_14 k5), ho5, ?_, ⟨rfl, rfl, rfl, trivial⟩⟩, S5⟩
            rw [List.range_succ, List.map_append, ← List.append_assoc]
            refine (hti.keep (newer_mono (stays_trans k0_14 k5))).snoc (newer_get e5 (fresh_of_stays (stays_trans g1 k0_14) n5)) ⟨fun a b => absurd b (by (first | exact omq307 _ b | omega)), fun j hj e => ?_⟩
            have ej : j = i := by (first | exact omq308 _ _ e | omega)
            subst ej
            refine ⟨_, _, newer_get (k5 _ _ hra14) gra, ?_⟩
            unfold rowItems
            rw [hr]
            dsimp only
            rw [if_pos hord, if_neg hk]
            exact Its.append (vs := []) (is := []) trivial (Its.keep (newer_mono (stays_trans k14 k5)) itsP)
        · refine ite_neg hord ?_
          repeat (walk_at "st")
          rename St _ _ _ _ _ _ _ _ => S
          refine law_word S.wdh R.dp (S.base (k13 _ _ (k10 _ _ (k34 _ _ (g1 _ _ hp))))) (hpl.keep (stays_trans (stays_trans g1 (stays_trans k34 (stays_trans k10 k13))) S.out)) hr hk2 (by (first | exact omq310 _ _ _ hn0 (by assumption) hvl hilt | omega)) (by (first | exact omq311 _ _ _ hgv hgs2 hlen' | omega)) fun h15 tk15 t15 k15 => ?_
          replace S := S.keeps k15
          repeat (walk_at "st")
          refine mkNm S.wdh (R.dp (d' := 0) (u' := 0)) fun h16 tk16 st k16 hst => ?_
          obtain ⟨h17, S17, kk17, kN17⟩ := S.adopt2 k16
          have hst2 := hst.keep (kN17 s.heap (stays_trans (stays_trans g1 (stays_trans k34 (stays_trans k10 k13))) S.out))
          clear S
          repeat (walk_at "st")
          rename St _ _ _ _ _ _ _ _ => S
          have kk15 := stays_trans k13 kk17
          refine rAddL S (S.new (.head _)) (S.base (kk17 _ _ hap)) (by rw [sizeLine_eq, List.length_singleton]; (first | exact omq306 _ hpl2 | omega)) fun ra h18 k18 n18 S => ?_
          replace S := S.snd
          have gra := fresh_of_stays (stays_trans g1 (stays_trans k34 (stays_trans k10 kk15))) (S.nw _ (.head _)).2.2
          obtain ⟨h14, S14, k14, hra14⟩ := S.rest (fun v q => nomatch q)
          clear S
          have k0_14 : h₀'.StaysIn h14 := stays_trans k34 (stays_trans k10 (stays_trans kk15 k14))
          have hsh14 := k0_14 _ _ hsh'
          have hdsh14 := k0_14 _ _ hdsh'
          repeat (walk_at "st")
          rename St _ _ _ _ _ _ _ _ => S
          refine put_st (pre := [(e, oe), (it, oi)]) (post := []) S R.dp hsh14 hdsh14 ho hkey hkl fun h5 h5' tk5 o5 tp t5 m5 k5 S5 ho5 n5 e5 => ?_
          repeat (walk_at "st")
          refine ⟨_, _, _, _, _, _, rfl, stays_trans k0_14 k5, ⟨rfl, o5, _, rfl, stays_trans kk (stays_trans k0_14 k5), ho5, ?_, ⟨rfl, rfl, rfl, trivial⟩⟩, S5⟩
          rw [List.range_succ, List.map_append, ← List.append_assoc]
          refine (hti.keep (newer_mono (stays_trans k0_14 k5))).snoc (newer_get e5 (fresh_of_stays (stays_trans g1 k0_14) n5)) ⟨fun a b => absurd b (by (first | exact omq307 _ b | omega)), fun j hj e => ?_⟩
          have ej : j = i := by (first | exact omq308 _ _ e | omega)
          subst ej
          refine ⟨_, _, newer_get (k5 _ _ hra14) gra, ?_⟩
          unfold rowItems
          rw [hr]
          dsimp only
          rw [if_neg hord]
          exact Its.append (vs := [_]) (is := [.nm (wordOf r)]) ⟨⟨st, rfl, hst2.keep (newer_mono (stays_trans k14 k5))⟩, trivial⟩ (Its.keep (newer_mono (stays_trans kk17 (stays_trans k14 k5))) itsP)
    · intro h₀' l lc news h6 tk6 hk0 hJ S
      obtain ⟨rfl, o, kvs, rfl, kk, ho, hti, hsub⟩ := hJ
      replace S := S.names hsub
      repeat (walk_at "st")
      rename St _ _ _ _ _ _ _ _ => S
      have g1 := stays_trans ks kk
      obtain ⟨hx, Sx, kx, htb⟩ := S.rest (dictO_noCell ho)
      rw [hpl.length] at hti
      exact hret _ _ sh (stays_trans g1 S.out) (shelf_of (newer_get (S.base (kk _ _ hsh)) gsh) (newer_get (S.base (kk _ _ hdsh)) gdsh) (newer_get (S.new (.head _)) gtb) ho lo (hti.keep (newer_mono S.out)))
end law_shelfC
section
variable {prog : Program} {w : World} {A : Around} {Q E : Value → Shared → Prop} {s : Shared} 
theorem law_shelf {p : Addr} {vs : List Value} {kp : Nat} {rs : List PRow} {ord : Bool} (W : Wd w s.heap) (R : Rm A 6 40) (hp : s.heap.get? p = some (lstO vs kp)) (hpl : PlanIs s.heap vs rs) (hn0 : 0 < rs.length) (hn : rs.length ≤ 23) (hg : ∀ (j : Nat) (r : PRow), rs[j]? = some r → r.k ≤ 2 ∧ r.gs.length ≤ 2 ∧ r.c ≤ 3)
    (hret : ∀ h' tk' sh, s.heap.StaysIn h' → ShelfAt prog w (newer s.heap h') sh (rowsOf rs ord) → Q (.ref sh) { s with heap := h', toks := tk' }) : wpAny (model prog w) A (call (.ref 442) [.ref p, .bool ord]) Q E s := worst_all (α := law_shelfC.V) (default, Cx.one.w, {}, fun _ _ => True, fun _ _ => True, Cx.one.s, (0 : Nat), [], (0 : Nat), [], false) (fun _ : law_shelfC.V => (0 : Nat)) (fun v => law_shelfC.P v.1 v.2.1 v.2.2.1 v.2.2.2.1 v.2.2.2.2.1 v.2.2.2.2.2.1 v.2.2.2.2.2.2.1 v.2.2.2.2.2.2.2.1 v.2.2.2.2.2.2.2.2.1 v.2.2.2.2.2.2.2.2.2.1 v.2.2.2.2.2.2.2.2.2.2) (fun _ => @law_shelfC.at_c) (prog, w, A, Q, E, s, p, vs, kp, rs, ord) W R hp hpl hn0 hn hg hret
end

/-! QL10 -/
open PySem.SeqAt
section
variable {prog : Program} {w : World} {A : Around} {Q E : Value → Shared → Prop} {s : Shared} 
noncomputable def truthOf (st : Nat → Bool) : List PRow → Bool
  | [] => false
  | r :: rs => (joined (wordOf r) (List.replicate r.c (truthOf st rs) ++ r.gs.map st)).getD false
theorem drop_at {α : Type} {l : List α} {i : Nat} {x : α} (h : l[i]? = some x) : l.drop i = x :: l.drop (i + 1) := by
  have hi := (List.getElem?_eq_some_iff.mp h).1
  rw [List.drop_eq_getElem_cons hi]
  congr 1
  exact (List.getElem?_eq_some_iff.mp h).2
theorem word_cases (r : PRow) : (wordOf r = "Not" ∧ r.c + r.gs.length = 1) ∨ wordOf r = "And" ∨ wordOf r = "Or" := by
  unfold wordOf
  by_cases h : r.k = 2 ∧ r.c + r.gs.length = 1
  · rw [if_pos h]; exact .inl ⟨rfl, h.2⟩
  · rw [if_neg h]
    by_cases h2 : r.k % 2 = 0
    · rw [if_pos h2]; exact .inr (.inl rfl)
    · rw [if_neg h2]; exact .inr (.inr rfl)

noncomputable abbrev stC (sd : Addr) : List (Str × Option Value) := [("states", some (.ref sd))]
end
namespace law_truthC
noncomputable abbrev V := Program × World × Around × (Value → Shared → Prop) × (Value → Shared → Prop) × Shared × Addr × Addr × List Value × Nat × List PRow × (Int → Option Value) × (Nat → Bool)
noncomputable def P (prog : Program) (w : World) (A : Around) (Q : Value → Shared → Prop) (E : Value → Shared → Prop) (s : Shared) (p : Addr) (sd : Addr) (vs : List Value) (kp : Nat) (rs : List PRow) (fs : Int → Option Value) (st : Nat → Bool) : Prop := ∀ (W : Wd w s.heap) (R : Rm A 6 40) (hp : s.heap.get? p = some (lstO vs kp)) (hpl : PlanIs s.heap vs rs) (hn0 : 0 < rs.length) (hn : rs.length ≤ 23) (hg : ∀ (j : Nat) (r : PRow), rs[j]? = some r → r.k ≤ 2 ∧ r.gs.length ≤ 2 ∧ r.c ≤ 3 ∧ (∀ g, g ∈ r.gs → 1 ≤ g ∧ g ≤ 4) ∧ (j + 1 = rs.length → r.c = 0)) (hst : s.heap.MapOf (intKind prog w) sd fs) (losd : (sd == sysModules) = false) (hfs : ∀ g : Nat, 1 ≤ g → g ≤ 4 → fs (g : Int) = some (.bool (st g))) (hret : ∀ h' tk', s.heap.StaysIn h' → Q (.bool (truthOf st rs)) { s with heap := h', toks := tk' }), wpAny (model prog w) A (call (.ref 454) [.ref p, .ref sd]) Q E s
noncomputable def wc : V := worst (α := V) (default, Cx.one.w, {}, fun _ _ => True, fun _ _ => True, Cx.one.s, (0 : Nat), (0 : Nat), [], (0 : Nat), [], fun _ => none, fun _ => false) (fun _ : V => (0 : Nat)) fun v => P v.1 v.2.1 v.2.2.1 v.2.2.2.1 v.2.2.2.2.1 v.2.2.2.2.2.1 v.2.2.2.2.2.2.1 v.2.2.2.2.2.2.2.1 v.2.2.2.2.2.2.2.2.1 v.2.2.2.2.2.2.2.2.2.1 v.2.2.2.2.2.2.2.2.2.2.1 v.2.2.2.2.2.2.2.2.2.2.2.1 v.2.2.2.2.2.2.2.2.2.2.2.2
noncomputable def prog : Program := wc.1
noncomputable def w : World := wc.2.1
noncomputable def A : Around := wc.2.2.1
noncomputable def Q : Value → Shared → Prop := wc.2.2.2.1
noncomputable def E : Value → Shared → Prop := wc.2.2.2.2.1
noncomputable def s : Shared := wc.2.2.2.2.2.1
noncomputable def p : Addr := wc.2.2.2.2.2.2.1
noncomputable def sd : Addr := wc.2.2.2.2.2.2.2.1
noncomputable def vs : List Value := wc.2.2.2.2.2.2.2.2.1
noncomputable def kp : Nat := wc.2.2.2.2.2.2.2.2.2.1
noncomputable def rs : List PRow := wc.2.2.2.2.2.2.2.2.2.2.1
noncomputable def fs : Int → Option Value := wc.2.2.2.2.2.2.2.2.2.2.2.1
noncomputable def st : Nat → Bool := wc.2.2.2.2.2.2.2.2.2.2.2.2
theorem at_c (W : Wd w s.heap) (R : Rm A 6 40) (hp : s.heap.get? p = some (lstO vs kp)) (hpl : PlanIs s.heap vs rs) (hn0 : 0 < rs.length) (hn : rs.length ≤ 23) (hg : ∀ (j : Nat) (r : PRow), rs[j]? = some r → r.k ≤ 2 ∧ r.gs.length ≤ 2 ∧ r.c ≤ 3 ∧ (∀ g, g ∈ r.gs → 1 ≤ g ∧ g ≤ 4) ∧ (j + 1 = rs.length → r.c = 0)) (hst : s.heap.MapOf (intKind prog w) sd fs) (losd : (sd == sysModules) = false) (hfs : ∀ g : Nat, 1 ≤ g → g ≤ 4 → fs (g : Int) = some (.bool (st g))) (hret : ∀ h' tk', s.heap.StaysIn h' → Q (.bool (truthOf st rs)) { s with heap := h', toks := tk' }) : wpAny (model prog w) A (call (.ref 454) [.ref p, .ref sd]) Q E s := by
  refine' enterC (news := []) [("plan", .ref p)] (stC sd) ?hn ?hnd ?W ?ho ?hcd ?hroom ?hb ?hk1 ?hl ?hc ?_ ?c1 ?c2 ?c3
  (case hn => intro p hp; cases hp)
  (case hnd => simp)
  (case W => exact W)
  (case ho => k_is)
  (case hcd => k_is)
  (case hroom => exact Rm.room (by assumption))
  (case hb => exact rfl)
  (case hk1 => exact rfl)
  (case hl => exact ⟨rfl, trivial⟩)
  (case hc => exact ⟨⟨⟨_, rfl⟩, rfl⟩, trivial⟩)
  (case c1 => exact rfl)
  (case c2 => exact rfl)
  (case c3 => exact rfl)
  intro h₁ tk₁ S k₁
  replace S : St w s.heap _ _ _ _ _ _ := S
  have hvl := hpl.length
  repeat (walk_at "st")
  rename St _ _ _ _ _ _ _ _ => S
  refine rLenL (S.base hp) (by (first | exact omq293 _ _ hn0 hn hvl | omega)) ?_
  repeat (walk_at "st")
  refine call_range_3 (by decide) ?_
  rename St _ _ _ _ _ _ _ _ => S
  refine forRangeI (n := rs.length) (fun i h₀' l lc news => lc = stC sd ∧ news = [] ∧ s.heap.StaysIn h₀' ∧ ∃ lv, Sub l [("later", lv), ("plan", .ref p)] ∧ (i = 0 ∨ lv = .bool (truthOf st (rs.drop (rs.length - i))))) (S.keeps (stays_push _)) R.hh (IsRange.new _ _ _ _ _ _ _) (by rw [rangeSize_downNat]; (first | exact omq312 _ _ hn0 hn hvl | omega)) (small_down (by (first | exact omq313 _ _ hn0 hn hvl | omega)) (by (first | exact omq314 _ _ hn0 hn hvl | omega)) (by decide) (by decide)) ⟨rfl, rfl, stays_refl, .none, ⟨rfl, rfl, trivial⟩, .inl rfl⟩ ?_ ?_
  · intro i t h₀' l lc news h4 tk4 I oI hof hi hJ S
    obtain ⟨rfl, rfl, kk, lv, hsub, hlv⟩ := hJ
    replace S := S.names hsub
    obtain ⟨j, hj⟩ : ∃ j, j + 1 + i = rs.length := ⟨rs.length - 1 - i, by (first | exact omq315 _ _ _ hvl hi | omega)⟩
    rw [show (vs.length : Int) - 1 + (i : Int) * -1 = ((j : Nat) : Int) by (first | exact omq316 _ _ _ _ hvl hj | omega)]
    obtain ⟨r, hr⟩ : ∃ r, rs[j]? = some r := ⟨_, List.getElem?_eq_getElem (by (first | exact omq317 _ _ _ _ hvl hj | omega))⟩
    obtain ⟨v, hv, T2, ga, gv, tc, tkk, kg, m, rfl, q1, q2, q3⟩ := hpl.at hr
    obtain ⟨hk2, hgs2, hc3, hgs4, hclast⟩ := hg j r hr
    have hgv : gv.length = r.gs.length := by rw [q3.length, List.length_map]
    have hgi : IntsAre gv (r.gs.map fun g => ((g : Nat) : Int)) := q3
    have hT : r.c = 0 ∨ lv = .bool (truthOf st (rs.drop (j + 1))) := by
      rcases hlv with q | q
      · exact .inl (hclast (by (first | exact omq318 _ _ _ _ hvl hj q | omega)))
      · rw [show rs.length - i = j + 1 by (first | exact omq319 _ _ _ _ hvl hi hj | omega)] at q; exact .inr q
    repeat (walk_at "st")
    rename St _ _ _ _ _ _ _ _ => S
    refine rItemL (S.base (kk _ _ hp)) (by (first | exact omq320 _ _ _ _ hvl hi hj | omega)) (by (first | exact omq321 _ _ _ _ hn0 hn hvl hj | omega)) (by simpa using hv) ?_
    refine rUnp S R.hh (S.base (kk _ _ q1)) rfl rfl fun h9 k9 S => ?_
    repeat (walk_at "st")
    rename St _ _ _ _ _ _ _ _ => S
    refine rMulL (x := r.c) S (S.new (.head _)) (by (first | exact omq297 _ hc3 | omega)) (by simp; (first | exact omq298 _ hc3 | omega)) fun am h' S => ?_
    replace S := S.snd
    obtain ⟨h3, S3, k4, hm⟩ := S.rest (fun v q => nomatch q)
    clear S
    repeat (walk_at "st")
    refine rLC [("states", _)] ?_
    repeat (walk_at "st")
    rename St _ _ _ _ _ _ _ _ => S
    refine lcList (fun i' h₀'' lc' news' acc => lc' = stC sd ∧ news' = [(I, oI)] ∧ acc = (r.gs.take i').map fun g => Value.bool (st g)) S R.hh (k4 _ _ (kk _ _ q2)) (by rw [sizeLine_eq]; (first | exact omq322 _ _ hgs2 hgv | omega)) ⟨rfl, rfl, rfl⟩ ?_ ?_
    · intro i' v h₀'' lc' news' h10 tk10 I' oI' C' D oL kD acc hled hv10 k10 hJ S
      obtain ⟨rfl, rfl, rfl⟩ := hJ
      obtain ⟨n, tn, rfl, hn10⟩ := IntsAre.at hgi _ _ hv10
      repeat (walk_at "st")
      rename St _ _ _ _ _ _ _ _ => S
      rw [List.getElem?_map] at hn10
      obtain ⟨gg, hgg, rfl⟩ := Option.map_eq_some_iff.mp hn10
      obtain ⟨g1, g4⟩ := hgs4 gg (List.mem_of_getElem? hgg)
      have hmp : h10.MapOf (intKind prog w) sd fs := mapKeep hst (stays_trans kk (stays_trans k4 (stays_trans k10 S.out)))
      refine tail_any (s := ⟨h10, _, _, _, _⟩) hmp.typeIs slot_dict_getitem.lookup (wpAny_getItem_of (intKind_is prog w _ _) hmp (hfs gg g1 g4) ?_) (by with_unfolding_all rfl)
      refine ⟨_, _, _, _, _, rfl, stays_refl, ⟨rfl, rfl, ?_⟩, S⟩
      rw [List.take_add_one, hgg, List.map_append]
      rfl
    · intro h₀'' lc' news' h10 tk10 C' D oC kD acc m' hJ hlen' k10 S hn
      obtain ⟨rfl, rfl, hacc⟩ := hJ
      refine fin0 S hn fun h11 S => ?_
      rw [List.take_of_length_le (by rw [hgv]; exact Nat.le_refl _)] at hacc
      refine rAddL S (S.base (k10 _ _ hm)) (S.new (.head _)) (by
        rw [lm_rep_flat_one, List.length_replicate, sizeLine_eq]; (first | exact omq323 _ _ _ _ hgs2 hc3 hgv hlen' | omega)) fun ap h12 k12 np S => ?_
      replace S := S.snd
      have hparts : (List.replicate r.c [lv]).flatten ++ acc = (List.replicate r.c (truthOf st (rs.drop (j + 1))) ++ r.gs.map st).map Value.bool := by
        rw [lm_rep_flat_one, hacc, List.map_append, List.map_replicate, List.map_map]
        rcases hT with q | q
        · rw [q]; rfl
        · rw [q]; rfl
      rw [hparts] at S
      obtain ⟨h13, S13, k13, hap⟩ := S.rest (fun v q => nomatch q)
      clear S
      repeat (walk_at "st")
      rename St _ _ _ _ _ _ _ _ => S
      have k03 := stays_trans kk (stays_trans k4 (stays_trans k10 k13))
      refine law_word S.wdh R.dp (S.base (k03 _ _ hp)) (hpl.keep (stays_trans k03 S.out)) hr hk2 (by (first | exact omq324 _ _ _ _ hn0 (by assumption) hvl hj | omega)) (by (first | exact omq325 _ _ _ hgs2 hgv hlen' | omega)) fun h15 tk15 t15 k15 => ?_
      replace S := S.keeps k15
      have htr : truthOf st (rs.drop j) = (joined (wordOf r) (List.replicate r.c (truthOf st (rs.drop (j + 1))) ++ r.gs.map st)).getD false := by
        rw [drop_at hr]; rfl
      have hlb : (List.replicate r.c (truthOf st (rs.drop (j + 1))) ++ r.gs.map st).length = r.c + r.gs.length := by simp
      generalize (List.replicate r.c (truthOf st (rs.drop (j + 1))) ++ r.gs.map st) = bs at hap htr hlb
      repeat (walk_at "st")
      have hnj : rs.length - (i + 1) = j := by (first | exact omq326 _ _ _ _ hvl hi hj | omega)
      refine PyProof.Rows.eq_str ?_
      rcases word_cases r with ⟨hw, hcl⟩ | hw | hw
      · rw [hw] at htr ⊢
        rw [beq_self_eq_true]
        obtain ⟨b, rfl⟩ : ∃ b, bs = [b] := by
          match bs, hlb with
          | [b], _ => exact ⟨b, rfl⟩
          | [], e => simp at e; (first | exact (omq327 _ _ _ _ _ hgv hlen' hlb hcl e).elim | omega)
          | _ :: _ :: _, e => simp at e; (first | exact (omq328 _ _ _ _ _ _ hgv hlen' hlb hcl e).elim | omega)
        repeat (walk_at "st")
        rename St _ _ _ _ _ _ _ _ => S
        refine rItemL (S.base hap) (by decide) (by decide) rfl ?_
        repeat (walk_at "st")
        rename St _ _ _ _ _ _ _ _ => S
        exact ⟨_, _, _, _, _, _, rfl, ⟨rfl, rfl, k03, _, ⟨rfl, rfl, trivial⟩, .inr (by rw [hnj, htr]; rfl)⟩, S⟩
      · rw [hw] at htr ⊢
        rw [show (Str.ofString "And" == Str.ofString "Not") = false by decide]
        repeat (walk_at "st")
        refine PyProof.Rows.eq_str ?_
        rw [hw, beq_self_eq_true]
        repeat (walk_at "st")
        rename St _ _ _ _ _ _ _ _ => S
        refine notIn_listAt (vB false) (isL (S.base hap)) (fun y hy => ?_) ?_
        · obtain ⟨b, rfl, _⟩ := mem_bools hy
          exact EqAt.bool_bool b false
        · rw [any_vB]
          repeat (walk_at "st")
          rename St _ _ _ _ _ _ _ _ => S
          exact ⟨_, _, _, _, _, _, rfl, ⟨rfl, rfl, k03, _, ⟨rfl, rfl, trivial⟩, .inr (by rw [hnj, htr]; rfl)⟩, S⟩
      · rw [hw] at htr ⊢
        rw [show (Str.ofString "Or" == Str.ofString "Not") = false by decide]
        repeat (walk_at "st")
        refine PyProof.Rows.eq_str ?_
        rw [hw, show (Str.ofString "Or" == Str.ofString "And") = false by decide]
        repeat (walk_at "st")
        rename St _ _ _ _ _ _ _ _ => S
        refine in_listAt (vB true) (isL (S.base hap)) (fun y hy => ?_) ?_
        · obtain ⟨b, rfl, _⟩ := mem_bools hy
          exact EqAt.bool_bool b true
        · rw [any_vB]
          repeat (walk_at "st")
          rename St _ _ _ _ _ _ _ _ => S
          exact ⟨_, _, _, _, _, _, rfl, ⟨rfl, rfl, k03, _, ⟨rfl, rfl, trivial⟩, .inr (by rw [hnj, htr]; rfl)⟩, S⟩
  · intro h₀' l lc news h4 tk4 hJ S
    obtain ⟨rfl, rfl, kk, lv, hsub, hlv⟩ := hJ
    replace S := S.names hsub
    obtain rfl : lv = .bool (truthOf st rs) := by
      rcases hlv with q | q
      · (first | exact (omq329 _ _ hn0 hn hvl q).elim | omega)
      · rw [Nat.sub_self, List.drop_zero] at q; exact q
    repeat (walk_at "st")
    rename St _ _ _ _ _ _ _ _ => S
    exact hret _ _ (stays_trans kk S.out)
end law_truthC
section
variable {prog : Program} {w : World} {A : Around} {Q E : Value → Shared → Prop} {s : Shared} 
theorem law_truth {p sd : Addr} {vs : List Value} {kp : Nat} {rs : List PRow} {fs : Int → Option Value} {st : Nat → Bool} (W : Wd w s.heap) (R : Rm A 6 40) (hp : s.heap.get? p = some (lstO vs kp)) (hpl : PlanIs s.heap vs rs) (hn0 : 0 < rs.length) (hn : rs.length ≤ 23)
    (hg : ∀ (j : Nat) (r : PRow), rs[j]? = some r → r.k ≤ 2 ∧ r.gs.length ≤ 2 ∧ r.c ≤ 3 ∧ (∀ g, g ∈ r.gs → 1 ≤ g ∧ g ≤ 4) ∧ (j + 1 = rs.length → r.c = 0)) (hst : s.heap.MapOf (intKind prog w) sd fs) (losd : (sd == sysModules) = false) (hfs : ∀ g : Nat, 1 ≤ g → g ≤ 4 → fs (g : Int) = some (.bool (st g)))
    (hret : ∀ h' tk', s.heap.StaysIn h' → Q (.bool (truthOf st rs)) { s with heap := h', toks := tk' }) : wpAny (model prog w) A (call (.ref 454) [.ref p, .ref sd]) Q E s := worst_all (α := law_truthC.V) (default, Cx.one.w, {}, fun _ _ => True, fun _ _ => True, Cx.one.s, (0 : Nat), (0 : Nat), [], (0 : Nat), [], fun _ => none, fun _ => false) (fun _ : law_truthC.V => (0 : Nat)) (fun v => law_truthC.P v.1 v.2.1 v.2.2.1 v.2.2.2.1 v.2.2.2.2.1 v.2.2.2.2.2.1 v.2.2.2.2.2.2.1 v.2.2.2.2.2.2.2.1 v.2.2.2.2.2.2.2.2.1 v.2.2.2.2.2.2.2.2.2.1 v.2.2.2.2.2.2.2.2.2.2.1 v.2.2.2.2.2.2.2.2.2.2.2.1 v.2.2.2.2.2.2.2.2.2.2.2.2) (fun _ => @law_truthC.at_c) (prog, w, A, Q, E, s, p, sd, vs, kp, rs, fs, st) W R hp hpl hn0 hn hg hst losd hfs hret
end

/-! QL11 -/
section
variable {prog : Program} {w : World} {A : Around} {Q E : Value → Shared → Prop} {s : Shared} 
/-- the law's own rows -/
noncomputable def lrows : List PRow → Nat → Nat → List RowT
  | [], _, _ => []
  | r :: rest, i, d => (if r.k = 2 then [.lab d (byteArr [65 + (i : Int)])] else []) ++ ((List.replicate r.c (lrows rest (i + 1) (d + 1))).flatten ++ r.gs.map (.grp (d + 1)))
theorem lrows_len : ∀ (rs : List PRow) (i d : Nat), (lrows rs i d).length = countOf rs
  | [], _, _ => rfl
  | r :: rest, i, d => by
    have e : (if r.k = 2 then [RowT.lab d (byteArr [65 + (i : Int)])] else []).length = if r.k = 2 then 1 else 0 := by split <;> rfl
    show ((if r.k = 2 then [RowT.lab d (byteArr [65 + (i : Int)])] else []) ++ ((List.replicate r.c (lrows rest (i + 1) (d + 1))).flatten ++ r.gs.map (RowT.grp (d + 1)))).length = r.c * countOf rest + r.gs.length + (if r.k = 2 then 1 else 0)
    rw [List.length_append, List.length_append, e, lm_len_rep_flat, lrows_len rest, List.length_map]
    (first | exact omq158 _ _ _ | omega)
noncomputable abbrev St.cells {w : World} {h₀ h : Heap} {L : Addr} {cl : List (Str × Addr)} {l : List (Str × Value)} {lc : List (Str × Option Value)} {news : List (Addr × Obj)} (S : St w h₀ L cl l lc news h) : List (Str × Addr) := cl
noncomputable abbrev dC (v : Value) : List (Str × Option Value) := [("depth", some v)]

end
namespace law_rowsC
noncomputable abbrev V := Program × World × Addr × List Value × Nat × List PRow × Nat × Nat × Nat × Around × Shared × (Value → Shared → Prop) × (Value → Shared → Prop) × Tok × Tok
noncomputable def P (prog : Program) (w : World) (p : Addr) (vs : List Value) (kp : Nat) (rs : List PRow) (k : Nat) (i : Nat) (d : Nat) (A : Around) (s : Shared) (Q : Value → Shared → Prop) (E : Value → Shared → Prop) (ti : Tok) (td : Tok) : Prop := ∀ (hn : rs.length ≤ 23) (hg : ∀ (j : Nat) (r : PRow), rs[j]? = some r → r.k ≤ 2 ∧ r.gs.length ≤ 2 ∧ r.c ≤ 3 ∧ (j + 1 = rs.length → r.c = 0)), i + k = rs.length → 0 < k → countOf (rs.drop i) ≤ 10000 → Wd w s.heap → Rm A (k + 10) (3 * k + 60) → s.heap.get? p = some (lstO vs kp) → PlanIs s.heap vs rs →
      (∀ h' tk' D vs k, s.heap.StaysIn h' → s.heap.get? D = none → h'.get? D = some (lstO vs k) → RowsAre h' vs (lrows (rs.drop i) i d) → Q (.ref D) { s with heap := h', toks := tk' }) →
      wpAny (model prog w) A (call (.ref 466) [.ref p, .int (i : Int) ti, .int (d : Int) td]) Q E s
noncomputable def wc : V := worst (α := V) (default, Cx.one.w, (0 : Nat), [], (0 : Nat), [], (0 : Nat), (0 : Nat), (0 : Nat), {}, Cx.one.s, fun _ _ => True, fun _ _ => True, (0 : Nat), (0 : Nat)) (fun v : V => v.2.2.2.2.2.2.1) fun v => P v.1 v.2.1 v.2.2.1 v.2.2.2.1 v.2.2.2.2.1 v.2.2.2.2.2.1 v.2.2.2.2.2.2.1 v.2.2.2.2.2.2.2.1 v.2.2.2.2.2.2.2.2.1 v.2.2.2.2.2.2.2.2.2.1 v.2.2.2.2.2.2.2.2.2.2.1 v.2.2.2.2.2.2.2.2.2.2.2.1 v.2.2.2.2.2.2.2.2.2.2.2.2.1 v.2.2.2.2.2.2.2.2.2.2.2.2.2.1 v.2.2.2.2.2.2.2.2.2.2.2.2.2.2
noncomputable def prog : Program := wc.1
noncomputable def w : World := wc.2.1
noncomputable def p : Addr := wc.2.2.1
noncomputable def vs : List Value := wc.2.2.2.1
noncomputable def kp : Nat := wc.2.2.2.2.1
noncomputable def rs : List PRow := wc.2.2.2.2.2.1
noncomputable def k₀ : Nat := wc.2.2.2.2.2.2.1
noncomputable def i : Nat := wc.2.2.2.2.2.2.2.1
noncomputable def d : Nat := wc.2.2.2.2.2.2.2.2.1
noncomputable def A : Around := wc.2.2.2.2.2.2.2.2.2.1
noncomputable def s : Shared := wc.2.2.2.2.2.2.2.2.2.2.1
noncomputable def Q : Value → Shared → Prop := wc.2.2.2.2.2.2.2.2.2.2.2.1
noncomputable def E : Value → Shared → Prop := wc.2.2.2.2.2.2.2.2.2.2.2.2.1
noncomputable def ti : Tok := wc.2.2.2.2.2.2.2.2.2.2.2.2.2.1
noncomputable def td : Tok := wc.2.2.2.2.2.2.2.2.2.2.2.2.2.2
theorem at_c (IH : ∀ v : V, v.2.2.2.2.2.2.1 < k₀ → P v.1 v.2.1 v.2.2.1 v.2.2.2.1 v.2.2.2.2.1 v.2.2.2.2.2.1 v.2.2.2.2.2.2.1 v.2.2.2.2.2.2.2.1 v.2.2.2.2.2.2.2.2.1 v.2.2.2.2.2.2.2.2.2.1 v.2.2.2.2.2.2.2.2.2.2.1 v.2.2.2.2.2.2.2.2.2.2.2.1 v.2.2.2.2.2.2.2.2.2.2.2.2.1 v.2.2.2.2.2.2.2.2.2.2.2.2.2.1 v.2.2.2.2.2.2.2.2.2.2.2.2.2.2) : P prog w p vs kp rs k₀ i d A s Q E ti td := by
  unfold P
  intro hn hg
  have ih : ∀ k, k < k₀ → ∀ (i d : Nat) (A : Around) (s : Shared) (Q E : Value → Shared → Prop) (ti td : Tok), i + k = rs.length → 0 < k → countOf (rs.drop i) ≤ 10000 → Wd w s.heap → Rm A (k + 10) (3 * k + 60) → s.heap.get? p = some (lstO vs kp) → PlanIs s.heap vs rs →
      (∀ h' tk' D vs k, s.heap.StaysIn h' → s.heap.get? D = none → h'.get? D = some (lstO vs k) → RowsAre h' vs (lrows (rs.drop i) i d) → Q (.ref D) { s with heap := h', toks := tk' }) →
      wpAny (model prog w) A (call (.ref 466) [.ref p, .int (i : Int) ti, .int (d : Int) td]) Q E s := fun k hk i d A s Q E ti td => IH (prog, w, p, vs, kp, rs, k, i, d, A, s, Q, E, ti, td) hk hn hg
  clear IH
  intro hik hk0 hct W R hp hpl hret
  have R' : Rm A 8 40 := R.le (by (first | exact omq330 _ hk0 | omega)) (by (first | exact omq331 _ hk0 | omega))
  have R0 : ∀ env, Rm (A.deeper env) 8 40 := fun env => R.dp (by (first | exact omq332 _ hk0 | omega)) (by (first | exact omq333 _ hk0 | omega))
  obtain ⟨r, hr⟩ : ∃ r, rs[i]? = some r := ⟨_, List.getElem?_eq_getElem (by (first | exact omq334 _ _ _ hik hk0 | omega))⟩
  obtain ⟨v, hv, T2, ga, gv, tc, tkk, kg, m, rfl, q1, q2, q3⟩ := hpl.at hr
  obtain ⟨hk2, hgs2, hc3, hclast⟩ := hg i r hr
  have hgv : gv.length = r.gs.length := by rw [q3.length, List.length_map]
  have hgi : IntsAre gv (r.gs.map fun g => ((g : Nat) : Int)) := q3
  have hdr := drop_at hr
  have hcd : r.c * countOf (rs.drop (i + 1)) + r.gs.length + (if r.k = 2 then 1 else 0) ≤ 10000 := by rw [hdr] at hct; exact hct
  have hlr : lrows (rs.drop i) i d = (if r.k = 2 then [.lab d (byteArr [65 + (i : Int)])] else []) ++ ((List.replicate r.c (lrows (rs.drop (i + 1)) (i + 1) (d + 1))).flatten ++ r.gs.map (.grp (d + 1))) := by rw [hdr]; rfl
  refine' enterC (news := []) [("plan", .ref p), ("at", .int (i : Int) ti)] (dC (.int (d : Int) td)) ?hn ?hnd ?W ?ho ?hcd ?hroom ?hb ?hk1 ?hl ?hc ?_ ?c1 ?c2 ?c3
  (case hn => intro p hp; cases hp)
  (case hnd => simp)
  (case W => exact W)
  (case ho => k_is)
  (case hcd => k_is)
  (case hroom => exact Rm.room (by assumption))
  (case hb => exact rfl)
  (case hk1 => exact rfl)
  (case hl => exact ⟨rfl, rfl, trivial⟩)
  (case hc => exact ⟨⟨⟨_, rfl⟩, rfl⟩, trivial⟩)
  (case c1 => exact rfl)
  (case c2 => exact rfl)
  (case c3 => exact rfl)
  intro h₁ tk₁ S k₁
  replace S : St w s.heap _ _ _ _ _ _ := S
  refine wpAny_execs_cons ?_
  refine wpAny_mono (Q := fun f s' => f = .next ∧ ∃ h2 tk2, s' = { s with heap := h2, toks := tk2 } ∧ St w s.heap s.heap.objs.size S.cells [("kind", .int (r.k : Int) tkk), ("groups", .ref ga), ("count", .int (r.c : Int) tc), ("at", .int (i : Int) ti), ("plan", .ref p)] (dC (.int (d : Int) td)) [] h2) ?_ (fun f s' hmid => ?_) fun _ _ e => e
  · repeat (walk_at "st")
    rename St _ _ _ _ _ _ _ _ => S
    refine rItemL (S.base hp) (by (first | exact omq335 _ | omega)) (by (first | exact omq336 _ _ _ hn hik hk0 | omega)) (by simpa using hv) ?_
    refine rUnp S (R0 _).hh (S.base q1) rfl rfl fun h9 k9 S => ?_
    repeat (walk_at "st")
    rename St _ _ _ _ _ _ _ _ => S
    exact ⟨rfl, _, _, rfl, S.names ⟨rfl, rfl, rfl, rfl, rfl, trivial⟩⟩
  obtain ⟨rfl, h2, tk2, rfl, S⟩ := hmid
  dsimp only [St.cells] at S
  refine wpAny_execs_cons ?_
  refine wpAny_mono (Q := fun f s' => f = .next ∧ ∃ h2 tk2 D vsD kD h0, s' = { s with heap := h2, toks := tk2 } ∧ s.heap.StaysIn h0 ∧ s.heap.get? D = none ∧ RowsAre h0 vsD (if r.k = 2 then [.lab d (byteArr [65 + (i : Int)])] else []) ∧ St w h0 s.heap.objs.size S.cells [("found", .ref D), ("groups", .ref ga), ("count", .int (r.c : Int) tc), ("at", .int (i : Int) ti), ("plan", .ref p)] (dC (.int (d : Int) td)) [(D, lstO vsD kD)] h2) ?_ (fun f s' hmid => ?_) fun _ _ e => e
  · repeat (walk_at "st")
    by_cases hk : r.k = 2
    · refine ite_pos (by rw [hk]; rfl) ?_
      repeat (walk_at "st")
      rename St _ _ _ _ _ _ _ _ => S
      refine call_bytes_ints (ns := [65 + (i : Int)]) (isL (S.new (.head _))) (.cons _ _ .nil) (by intro n hn; rw [List.mem_singleton.mp hn]; (first | exact omq337 _ _ _ (by assumption) hik hk0 | omega)) (by simp [sizeLine_eq]) (R0 _).hh fun h15 t15 tk15 k15 => ?_
      replace S := S.tail.keeps k15
      repeat (walk_at "st")
      rename St _ _ _ _ _ _ _ _ => S
      obtain ⟨h16, S16, k16, ht16⟩ := S.swap.rest (fun v q => nomatch q)
      exact ⟨rfl, _, _, _, _, _, h16, rfl, k16, (S.nw _ (.head _)).2.2, by rw [if_pos hk]; exact ⟨⟨_, _, _, _, _, rfl, ht16⟩, trivial⟩, S16.names ⟨rfl, rfl, rfl, rfl, rfl, trivial⟩⟩
    · refine ite_neg (by rw [beq_iff_eq]; (first | exact omq213 _ hk | omega)) ?_
      repeat (walk_at "st")
      rename St _ _ _ _ _ _ _ _ => S
      exact ⟨rfl, _, _, _, _, _, s.heap, rfl, stays_refl, (S.nw _ (.head _)).2.2, by rw [if_neg hk]; trivial, S.names ⟨rfl, rfl, rfl, rfl, rfl, trivial⟩⟩
  obtain ⟨rfl, h2, tk2, D, vsD, kD, h0, rfl, k0, gD, hra, S⟩ := hmid
  dsimp only [St.cells] at S
  repeat (walk_at "st")
  have hll : (if r.k = 2 then [RowT.lab d (byteArr [65 + (i : Int)])] else []).length = if r.k = 2 then 1 else 0 := by split <;> rfl
  have hil := lrows_len (rs.drop (i + 1)) (i + 1) (d + 1)
  have hlk : (if r.k = 2 then [RowT.lab d (byteArr [65 + (i : Int)])] else []).length ≤ 1 := by rw [hll]; split <;> omega
  generalize (if r.k = 2 then [RowT.lab d (byteArr [65 + (i : Int)])] else []) = labs at hra hlr hll hlk
  refine forRange (n := r.c) (fun idx h₀' l lc news => lc = dC (.int (d : Int) td) ∧ ∃ vs k, news = [(D, lstO vs k)] ∧ h0.StaysIn h₀' ∧ RowsAre h₀' vs (labs ++ (List.replicate idx (lrows (rs.drop (i + 1)) (i + 1) (d + 1))).flatten) ∧ Sub l [("found", .ref D), ("groups", .ref ga), ("count", .int (r.c : Int) tc), ("at", .int (i : Int) ti), ("plan", .ref p)]) S (R0 _).hh (by (first | exact omq338 _ hc3 | omega)) ⟨rfl, vsD, kD, rfl, stays_refl, by simpa using hra, ⟨rfl, rfl, rfl, rfl, rfl, trivial⟩⟩ ?_ ?_
  · intro idx t h₀' l lc news h4 tk4 I oI hof hi hJ S
    obtain ⟨rfl, vs1, k1, rfl, kk, hra1, hsub⟩ := hJ
    replace S := S.names hsub
    have hin : i + 1 < rs.length := by
      rcases Nat.lt_or_ge (i + 1) rs.length with q | q
      · exact q
      · have := hclast (by (first | exact omq339 _ _ _ hik hk0 q | omega)); (first | exact omq340 _ _ _ _ hi this | omega)
    have kb := stays_trans k0 kk
    have hmul : (idx + 1) * countOf (rs.drop (i + 1)) ≤ r.c * countOf (rs.drop (i + 1)) := Nat.mul_le_mul_right _ (by (first | exact omq341 _ _ hi | omega))
    have hmul1 : 1 * countOf (rs.drop (i + 1)) ≤ (idx + 1) * countOf (rs.drop (i + 1)) := Nat.mul_le_mul_right _ (by (first | exact omq342 _ | omega))
    rw [Nat.one_mul] at hmul1
    have hvl1 := hra1.length
    rw [List.length_append, lm_len_rep_flat, hil] at hvl1
    rw [Nat.add_mul, Nat.one_mul] at hmul
    repeat (walk_at "st")
    rename St _ _ _ _ _ _ _ _ => S
    refine rMExt (S.new (.tail _ (.head _))) ?_
    repeat (walk_at "st")
    rename St _ _ _ _ _ _ _ _ => S
    rw [show (i : Int) + 1 = ((i + 1 : Nat) : Int) from rfl, show (d : Int) + 1 = ((d + 1 : Nat) : Int) from rfl]
    refine ih (k₀ - 1) (by (first | exact omq343 _ _ _ hik hin | omega)) (i + 1) (d + 1) _ _ _ _ _ _ (by (first | exact omq344 _ _ _ hik hin | omega)) (by (first | exact omq345 _ _ _ hik hin | omega)) (by (first | exact omq346 _ _ _ _ _ _ _ _ hgs2 hgv hcd hll hmul hvl1 | omega)) S.wdh (R.dp (by (first | exact omq347 _ _ _ hik hin | omega)) (by (first | exact omq348 _ _ _ hik hin | omega))) (S.base (kb _ _ hp)) (hpl.keep (stays_trans kb S.out)) fun h' tk' D2 vs3 k3 kk2 hn2 hD2 hr2 => ?_
    replace S := S.keeps kk2
    have nt : NoTup [(I, oI), (D, lstO vs1 k1)] := by
      intro p hp
      obtain ⟨vI, eI⟩ := hof
      rcases List.mem_cons.mp hp with rfl | hp
      · exact .inr fun vs n q => by rw [show oI.data = _ from eI] at q; cases q
      · rw [List.mem_singleton.mp hp]; exact .inl (by show Value.type "list" ≠ Value.type "tuple"; decide)
    have hr3 := RowsAre.frz S nt hr2
    obtain ⟨h5, S5, k5, eq⟩ := S.cool
    rw [← eq] at hr3
    clear S eq
    have hl3 := hr2.length
    rw [hil] at hl3
    repeat (walk_at "st")
    rename St _ _ _ _ _ _ _ _ => S
    refine rExt (pre := [(I, oI)]) (post := []) S hD2 (by
      rw [hl3, hvl1, sizeLine_eq]; (first | exact omq349 _ _ _ _ _ _ _ _ _ hgs2 hgv hcd hll hmul hvl1 hl3 | omega)) fun h' k' S kk => ?_
    repeat (walk_at "st")
    rename St _ _ _ _ _ _ _ _ => S
    refine ⟨_, _, _, _, _, _, rfl, ⟨rfl, _, _, rfl, stays_trans ‹_› k5, ?_, ⟨rfl, rfl, rfl, rfl, rfl, trivial⟩⟩, S⟩
    rw [List.replicate_succ', List.flatten_append, List.flatten_singleton, ← List.append_assoc]
    exact (hra1.keep k5).append hr3
  · intro h₀' l lc news h4 tk4 hJ S
    obtain ⟨rfl, vs1, k1, rfl, kk, hra1, hsub⟩ := hJ
    replace S := S.names hsub
    have kb := stays_trans k0 kk
    have hvl1 := hra1.length
    rw [List.length_append, lm_len_rep_flat, hil] at hvl1
    repeat (walk_at "st")
    rename St _ _ _ _ _ _ _ _ => S
    refine rLC [("depth", _)] ?_
    repeat (walk_at "st")
    rename St _ _ _ _ _ _ _ _ => S
    refine lcList (fun i' h₀'' lc' news' acc => lc' = dC (.int (d : Int) td) ∧ news' = [(D, lstO vs1 k1)] ∧ RowsAre h₀'' acc ((r.gs.take i').map (.grp (d + 1)))) S (R0 _).hh (kb _ _ q2) (by rw [sizeLine_eq]; (first | exact omq322 _ _ hgs2 hgv | omega)) ⟨rfl, rfl, trivial⟩ ?_ ?_
    · intro i' v h₀'' lc' news' h10 tk10 I' oI' C' D' oL kD' acc hled hv10 k10 hJ S
      obtain ⟨rfl, rfl, hacc⟩ := hJ
      obtain ⟨n, tn, rfl, hn10⟩ := IntsAre.at hgi _ _ hv10
      rw [List.getElem?_map] at hn10
      obtain ⟨gg, hgg, rfl⟩ := Option.map_eq_some_iff.mp hn10
      repeat (walk_at "st")
      rename St _ _ _ _ _ _ _ _ => S
      rw [show (d : Int) + 1 = ((d + 1 : Nat) : Int) from rfl] at S
      obtain ⟨h12, S12, k12, ht12⟩ := S.rest (fun v q => nomatch q)
      refine ⟨_, _, _, _, _, rfl, k12, ⟨rfl, rfl, ?_⟩, S12⟩
      rw [List.take_add_one, hgg, List.map_append]
      exact (hacc.keep k12).append ⟨⟨_, _, _, _, _, rfl, ht12⟩, trivial⟩
    · intro h₀'' lc' news' h10 tk10 C' Dc oC kDc acc m' hJ hlen' k10 S hn
      obtain ⟨rfl, rfl, hacc⟩ := hJ
      refine fin0 S hn fun h11 S => ?_
      rw [List.take_of_length_le (by rw [hgv]; exact Nat.le_refl _)] at hacc
      refine rAddL S (S.new (.tail _ (.head _))) (S.new (.head _)) (by
        rw [hlen', hvl1, hgv, sizeLine_eq]; (first | exact omq350 _ _ _ _ _ _ _ hgv hcd hll hvl1 hlen' | omega)) fun c h12 k12 nc S => ?_
      repeat (walk_at "st")
      rename St _ _ _ _ _ _ _ _ => S
      have kf := stays_trans kb (stays_trans k10 S.out)
      refine hret _ _ c _ _ kf (fresh_of_stays (stays_trans kb k10) (S.nw _ (.head _)).2.2) (S.new (.head _)) ?_
      rw [hlr, ← List.append_assoc]
      exact (hra1.keep (stays_trans k10 S.out)).append (hacc.keep S.out)
end law_rowsC
section
variable {prog : Program} {w : World} {A : Around} {Q E : Value → Shared → Prop} {s : Shared} 
theorem law_rows {p : Addr} {vs : List Value} {kp : Nat} {rs : List PRow} (hn : rs.length ≤ 23)
    (hg : ∀ (j : Nat) (r : PRow), rs[j]? = some r → r.k ≤ 2 ∧ r.gs.length ≤ 2 ∧ r.c ≤ 3 ∧ (j + 1 = rs.length → r.c = 0)) : ∀ (k i d : Nat) (A : Around) (s : Shared) (Q E : Value → Shared → Prop) (ti td : Tok), i + k = rs.length → 0 < k → countOf (rs.drop i) ≤ 10000 → Wd w s.heap → Rm A (k + 10) (3 * k + 60) → s.heap.get? p = some (lstO vs kp) → PlanIs s.heap vs rs →
      (∀ h' tk' D vs k, s.heap.StaysIn h' → s.heap.get? D = none → h'.get? D = some (lstO vs k) → RowsAre h' vs (lrows (rs.drop i) i d) → Q (.ref D) { s with heap := h', toks := tk' }) →
      wpAny (model prog w) A (call (.ref 466) [.ref p, .int (i : Int) ti, .int (d : Int) td]) Q E s := fun k i d A s Q E ti td => worst_all (α := law_rowsC.V) (default, Cx.one.w, (0 : Nat), [], (0 : Nat), [], (0 : Nat), (0 : Nat), (0 : Nat), {}, Cx.one.s, fun _ _ => True, fun _ _ => True, (0 : Nat), (0 : Nat)) (fun v : law_rowsC.V => v.2.2.2.2.2.2.1) (fun v => law_rowsC.P v.1 v.2.1 v.2.2.1 v.2.2.2.1 v.2.2.2.2.1 v.2.2.2.2.2.1 v.2.2.2.2.2.2.1 v.2.2.2.2.2.2.2.1 v.2.2.2.2.2.2.2.2.1 v.2.2.2.2.2.2.2.2.2.1 v.2.2.2.2.2.2.2.2.2.2.1 v.2.2.2.2.2.2.2.2.2.2.2.1 v.2.2.2.2.2.2.2.2.2.2.2.2.1 v.2.2.2.2.2.2.2.2.2.2.2.2.2.1 v.2.2.2.2.2.2.2.2.2.2.2.2.2.2) law_rowsC.at_c (prog, w, p, vs, kp, rs, k, i, d, A, s, Q, E, ti, td) hn hg
end

/-! QL12 -/
section
variable {prog : Program} {w : World} {A : Around} {Q E : Value → Shared → Prop} {s : Shared} 
end
/-- a fault on its way is caught here -/
theorem caughtHere {prog : Program} {w : World} {A : Around} {E : Value → Shared → Prop} {s : Shared} {base hX : Heap} {outer : List Env} {env : Env} {L e : Addr} {Q : Flow → Shared → Prop} {np pos : Pos} {b₀ : Stmt} {suite : List Stmt} {rest : List ExceptHandler}
    (hst : A.frames = some outer) (hfl : Fly base (env :: outer) hX e s.heap) (W : Wd w base) (he : Env0 env L) (hf : env.frame = some L) (hx : env.kindOf "TreeFault" = some .globalImplicit)
    (k : ∀ h', base.StaysIn h' → hX.UpToSlots h' → ∀ E', wpAny (model prog w) ((A.deeper env).mark (some (.ref e))) (execs (b₀ :: suite) env) Q E' { s with heap := h' }) :
    wpAny (model prog w) (A.deeper env) (noteFrame (.ref e) env)
      (fun _ s₂ => wpAny (model prog w) (A.deeper env) (setFlight (.ref e) none) (fun _ s₃ =>
        wpAny (model prog w) (A.deeper env) (handleBy (.ref e) env (.ExceptHandler (some (.Name "TreeFault" np)) none (b₀ :: suite) pos :: rest)) Q E s₃) E s₂) E s := by
  obtain ⟨a0, f, U⟩ := hfl
  refine wpAny_looks_onW (Around.frames_deeper hst) hf f fun h₄ hheld₄ hsm₄ => ?_
  refine wpAny_landsW hheld₄ fun h₅ hheld hsm₅' => ?_
  have hsm₅ := U.trans (hsm₄.trans hsm₅')
  have W5 := W.keeps hheld.1
  obtain ⟨ob, hob, hobc⟩ := hheld.there
  obtain ⟨_, _, _, _, T⟩ := W5.T
  refine wpAny_handleBy_cons (codeAny_handlers_test (Name_function_global he.fn hx (loadGlobal_global (env := env) (he.gl ▸ T.g) (mg_of W5.K T.g (by k_is)) ?_) (by decide))) (by intro q; cases q)
  refine wpAny_excMatches_sub_self (get59 W5.K) hob hobc (by decide +kernel) (codeAny_handlers_suite ?_)
  refine lands_againW hheld fun h₆ hfl₆ hsm₆ => ?_
  exact k h₆ hfl₆.1 (hsm₅.trans hsm₆) _

section
variable {prog : Program} {w : World} {A : Around} {Q E : Value → Shared → Prop} {s : Shared} 
/-- _law_heard -/
theorem heard {ok : Bool} {P : Heap → Value → Prop} {base : Heap} {outer : List Env} {f : Addr} (W : Wd w s.heap) (Wb : Wd w base) (R : Rm A 66 240) (B : Below A base outer s.heap) (hf : FnAt f s.heap)
    (hd : ∀ (A' : Around) (s' : Shared) (Q' E' : Value → Shared → Prop) (outer' : List Env), Rm A' 64 230 → Below A' base outer' s'.heap → s.heap.StaysIn s'.heap → Wd w s'.heap →
      (ok = true → ∀ h' tk v, s'.heap.StaysIn h' → P h' v → Q' v { s' with heap := h', toks := tk }) →
      (ok = false → ∀ e h' tk, Fly base outer' s'.heap e h' → E' (.ref e) { s' with heap := h', toks := tk }) →
      wpAny (model prog w) A' (call (.ref f) []) Q' E' s')
    (hok : ok = true → ∀ h' tk h1 D v, s.heap.StaysIn h1 → h1.StaysIn h' → P h1 v → s.heap.get? D = none → h'.get? D = some (lstO [v] 0) → Q (.ref D) { s with heap := h', toks := tk })
    (hno : ok = false → ∀ h' tk, base.StaysIn h' → s.heap.UpToSlots h' → Q .none { s with heap := h', toks := tk }) :
    wpAny (model prog w) A (call (.ref 473) [.ref f]) Q E s := by
  (refine' enter0 ?W ?ho ?hcd ?hroom ?hb ?hloc ?_ ?c1 ?c2 ?c3 ?c4; (case W => assumption); (case ho => k_is); (case hcd => k_is); (case hroom => exact Rm.room (by assumption)); (case hb => first | exact BindsTo.of_eq rfl | exact binds_K (Wd.K (by assumption)) rfl (by k_is) rfl rfl rfl); (case hloc => exact locs rfl); (case c1 => exact rfl); (case c2 => exact rfl); (case c3 => exact rfl); (case c4 => decide); intro _ _ _; (try dsimp only))
  rename St _ _ _ _ _ _ _ _ => S
  replace S := S.names (l' := [("deed", .ref f)]) ⟨rfl, trivial⟩
  have lz1 := S.lz
  refine wpAny_execs_cons ?_
  refine wpAny_Try_except ?_
  repeat (walk_at "st")
  rename St _ _ _ _ _ _ _ _ => S
  refine callWith_F0 ((by obtain ⟨oc, od, fd, sl, e⟩ := hf; exact ⟨oc, od, fd, sl, S.base e⟩)) ?_
  refine app0 ?_
  obtain ⟨oL, es, n, hL, hLd⟩ := S.here
  refine hd _ _ _ _ _ R.dp (belowAt B S.out rfl rfl hL (fun vs q => by rw [hLd] at q; cases q) (fresh_of_stays B.stays lz1)) S.out S.wdh (fun hok1 h' tk v k hP => ?_) (fun hno1 e h' tk fly => ?_)
  · have S1 := S.keeps k
    have k1 := stays_trans S.out k
    clear S
    obtain ⟨h0', S0, k0, eq0⟩ := S1.cool
    clear S1
    repeat (walk_at "st")
    rename Heap.StaysIn _ _ => kN
    rename St _ _ _ _ _ _ _ _ => S
    exact hok hok1 _ _ h' _ v k1 kN hP (fresh_of_stays k0 (S.nw _ (.head _)).2.2) (S.new (.head _))
  · refine caughtHere B.stack fly Wb ⟨rfl, rfl, rfl, rfl⟩ rfl rfl fun h2 kb U E' => ?_
    refine wpAny_execs_cons (wpAny_Return_some (Constant_none ?_))
    exact hno hno1 _ _ kb ((Heap.UpToSlots.of_keeps S.out).trans U)
end

/-! QL13 -/
section
variable {prog : Program} {w : World} {A : Around} {Q E : Value → Shared → Prop} {s : Shared} 
/-- a caught fault leaves the frame as it stood, up to slots -/
theorem St.landed {h₀ h h' : Heap} {L : Addr} {cl : List (Str × Addr)} {l : List (Str × Value)} {lc : List (Str × Option Value)} {news : List (Addr × Obj)} (S : St w h₀ L cl l lc news h) (nc : ∀ p ∈ news, ∀ v, p.2.data ≠ .cell v) (Bk : (hideAll h (loose L cl lc [])).StaysIn h') (U : h.UpToSlots h') : St w h₀ L cl l lc news h' := by
  have S0 := S.drop (List.nil_sublist news)
  have k0 : h₀.StaysIn h' := stays_trans S0.freeze.2 Bk
  obtain ⟨⟨g, m, F, G, W, hm⟩, Z, LZ, N, C, D⟩ := S
  refine ⟨⟨g, m, F.of_stays (stays_trans G k0) U, G, W, hm⟩, k0, LZ, fun p hp => ⟨Bk _ _ (S0.frz (N p hp).1 (N p hp).2.1 (by simp) (nc p hp)), (N p hp).2⟩, fun x v e => ?_, D⟩
  obtain ⟨c, o, a1, a2, a3, a4, a5⟩ := C x v e
  obtain ⟨sl, e2⟩ := U c o a2 (fun vs q => by rw [a3] at q; cases q)
  exact ⟨c, _, a1, e2, a3, a4, a5⟩
theorem noField_cell {ps : Array Value} (v : Option Value) : (tabObj ps).data ≠ .cell v := fun q => nomatch q
/-- a lambda is made -/
theorem rLam {h₀ : Heap} {L c P : Addr} {env : Env} {cl : List (Str × Addr)} {l : List (Str × Value)} {lc : List (Str × Option Value)} {pre post : List (Addr × Obj)} {ps : Array Value} {params : Arguments} {body : Expr} {scope : Scope} {pos : Pos} {clos : List (Str × Addr)} {mg : Str → Option Value}
    (S : St w h₀ L cl l lc (pre ++ (P, tabObj ps) :: post) s.heap) (hg : h₀.Ns mainGlobals mg) (hb : h₀.BuiltinsAt mg P) (C : CodeHd h₀ c P) (hcode : env.code = .ref c) (hge0 : env.globals = mainGlobals) (hdef : defaultsOf params env = ([], [])) (ht : TriplesOk ps.toList) (hnf : codeAmong pos ps.toList = none) (hcl : closureFor scope env = pure clos)
    (h : ∀ h' h₁ tk f c' pm ctv, h₀.StaysIn h₁ → St w h₁ L cl l lc (pre ++ (P, tabObj (ps ++ #[rawInt pos.line, rawInt pos.col, .ref c'])) :: post) h' → h₁.get? f = some (kla_obj "<lambda>" (env.qual ++ "<lambda>") params body scope clos pm c' ctv) → h₁.CodeRec (.ref c') (env.qual ++ "<lambda>") → Q (.ref f) { s with heap := h', toks := tk }) :
    wpAny (model prog w) A (eval (.Lambda params body scope pos) env) Q E s := by
  have hP := S.new (a := P) (o := tabObj ps) (by simp)
  have hgs := hg.keeps S.out
  have hgP : mainGlobals ≠ P := fun q => by
    obtain ⟨o, es, ep, e, hd, _⟩ := hgs
    rw [q, hP] at e; cases e; cases hd
  obtain ⟨bm, ob, b1, b2, b3, b4, b5, b6⟩ := hb
  refine kla_eval hdef (kla_makeFunction (mg := mg) hcl hge0 hgs hcode (C.keeps S.out) hP ht hnf hgP ⟨bm, ob, b1, b2, b3, b4, S.base b5, b6⟩ fun c' ctv h1 tk hx hge hlt hrec hP' => ?_)
  generalize hobj : kla_obj "<lambda>" (env.qual ++ "<lambda>") params body scope clos ((mg "__name__").getD .none) c' ctv = fo
  have hfr : fo.isFreed = false := by rw [← hobj]; rfl
  have S1 := S.turn (h' := h1.push fo) (fun v q => nomatch q) (fun b x hb e => Heap.get?_push_of_some _ (hx b x (by simpa using hb) e)) (Heap.get?_push_of_some _ hP')
  obtain ⟨h₁, S2, k2, eq⟩ := S1.cool
  have far : ∀ b, s.heap.objs.size ≤ b → b ∉ loose L cl lc (pre ++ (P, tabObj (ps ++ #[rawInt pos.line, rawInt pos.col, .ref c'])) :: post) := by
    intro b hb hm
    have hm' : b ∈ loose L cl lc (pre ++ (P, tabObj ps) :: post) := by
      unfold loose at hm ⊢
      rw [List.map_append, List.map_cons] at hm ⊢
      exact hm
    obtain ⟨o, e⟩ := S.loose_in hm'
    exact absurd (Heap.lt_size e) (Nat.not_lt.mpr hb)
  refine h (h1.push fo) h₁ tk h1.objs.size c' ((mg "__name__").getD .none) ctv k2 S2 ?_ ?_
  · rw [eq, hobj]
    exact hideAll_get _ (Heap.get?_push_size _ hfr) (far _ (Nat.le_trans hge (Nat.le_of_lt hlt)))
  · obtain ⟨c2, oc, vs, t, e1, e2, e3, e4⟩ := hrec
    cases e1
    refine ⟨c', oc, vs, t, rfl, ?_, e3, e4⟩
    rw [eq]
    exact hideAll_get _ (Heap.get?_push_of_some _ e2) (far _ hge)
/-- a call of a lambda without arguments -/
theorem enterLam {f c' : Addr} {name qual : Str} {body : Expr} {scope : Scope} {cl : List (Str × Addr)} {pm ctv : Value} (lc : List (Str × Option Value))
    (hf : s.heap.get? f = some (kla_obj name qual { posonlyargs := [], args := [], vararg := none, kwonlyargs := [], kw_defaults := [], kwarg := none, defaults := [] } body scope cl pm c' ctv)) (hcd : s.heap.CodeRec (.ref c') qual) (hroom : A.depth < recursionLimit) (W : Wd w (hideAll s.heap (cl.map (·.2))))
    (hce : ∀ x v, lc.lookup x = some v → ∃ c o, cl.lookup x = some c ∧ s.heap.get? c = some o ∧ o.data = .cell v)
    (h : ∀ h₁ tk, St w (hideAll s.heap (cl.map (·.2))) s.heap.objs.size cl [] lc [] h₁ → s.heap.StaysIn h₁ →
      wpAny (model prog w) (A.deeper (envX qual scope s.heap.objs.size f (.ref c') cl)) (eval body (envX qual scope s.heap.objs.size f (.ref c') cl)) Q
        (fun e s' => wpAny (model prog w) (A.deeper (envX qual scope s.heap.objs.size f (.ref c') cl)) (leaving (envX qual scope s.heap.objs.size f (.ref c') cl) e) (fun _ s'' => E e s'') E s')
        { s with heap := h₁, toks := tk })
    (hco : scope.isCoroutine = false) (hgen : scope.isGenerator = false) (hk : scope.kind = .function) (hcell : ∀ x ∈ scope.names, x.2 ≠ .cell) :
    wpAny (model prog w) A (call (.ref f) []) Q E s := by
  refine wpAny_call (kla_callFunE hroom hf rfl hco hgen rfl hcd ?_)
  have st : (hideAll s.heap (cl.map (·.2))).StaysIn s.heap := fun b o e => of_hideAll _ e
  refine wpAny_of_eq (a := []) rfl ?_
  refine wpAny_newFunctionEnv hcell (by intro y hy; simp at hy) (fun h₁ hns hsb => ⟨(W.keeps st).nolimit.fresh _ hsb, ?_⟩) hk
  have hk₁ : s.heap.StaysIn h₁ := fun b o e => hsb.extBut b o (Nat.ne_of_lt (Heap.lt_size e)) (Heap.get?_push_of_some _ e)
  show codeAny _ _ (.expr body (envX qual scope s.heap.objs.size f (.ref c') cl)) _ _
  refine kla_codeExpr (wpAny_mono (h h₁ _ ⟨⟨_, _, ⟨hns, stays_trans st hk₁, Nat.le_of_eq (hideAll_size _ _)⟩, stays_refl, W, fun _ _ e => nomatch e⟩, stays_trans st hk₁, by rw [← hideAll_size (cl.map (·.2)) s.heap]; exact get_size _, (fun p hp => nomatch hp), fun x v e => ?_, List.nodup_nil⟩ hk₁) (fun v s' hq => hq) fun e s' hq => hq)
  obtain ⟨c, o, a1, a2, a3⟩ := hce x v e
  exact ⟨c, o, a1, hk₁ _ _ a2, a3, Nat.ne_of_lt (Heap.lt_size a2), hideAll_none _ (List.mem_map.mpr ⟨_, mem_of_lookup a1, rfl⟩)⟩
end

/-! QL14 -/
section
noncomputable def GoodPlan (rs : List PRow) (ring : Bool) : Prop := 0 < rs.length ∧ rs.length ≤ 23 ∧ ∀ (j : Nat) (r : PRow), rs[j]? = some r → GoodRow rs.length ring j r
noncomputable def chainOf (rs : List PRow) (ring : Bool) : Chain where
  n := rs.length
  cnt i := (rs[i]?.map (·.c)).getD 0
  gs i := (rs[i]?.map (·.gs)).getD []
  nx i := (i + 1) % rs.length
  H i := if ring = true then 21 else (rs.length - 1 - i) + 1
variable {rs : List PRow} {ring : Bool}
theorem row_at (i : Nat) (hi : i < rs.length) : ∃ r, rs[i]? = some r := ⟨_, List.getElem?_eq_getElem hi⟩
theorem chain_row {i : Nat} {r : PRow} (h : rs[i]? = some r) : (chainOf rs ring).cnt i = r.c ∧ (chainOf rs ring).gs i = r.gs := by
  unfold chainOf
  dsimp only
  rw [h]
  exact ⟨rfl, rfl⟩
theorem chain_ok (g : GoodPlan rs ring) : (chainOf rs ring).Ok := by
  obtain ⟨g0, g1, g2⟩ := g
  have cz : ∀ i, i < rs.length → (chainOf rs ring).cnt i = 0 → i + 1 = rs.length ∧ ring = false := by
    intro i hi hc
    obtain ⟨r, hr⟩ := row_at i hi
    rw [(chain_row hr).1] at hc
    obtain ⟨_, _, _, _, a5, a6⟩ := g2 i r hr
    rcases Nat.lt_or_ge (i + 1) rs.length with q | q
    · have := a5 q; (first | exact (omq351 _ _ _ hc this).elim | omega)
    · have e : i + 1 = rs.length := by (first | exact omq352 _ _ hi q | omega)
      refine ⟨e, ?_⟩
      cases ring with
      | false => rfl
      | true => have := (a6 e).2.1 rfl; (first | exact (omq353 _ hc this).elim | omega)
  have cp : ∀ i, i < rs.length → 0 < (chainOf rs ring).cnt i → ring = false → i + 1 < rs.length := by
    intro i hi hc hring
    obtain ⟨r, hr⟩ := row_at i hi
    rw [(chain_row (ring := ring) hr).1] at hc
    obtain ⟨_, _, _, _, _, a6⟩ := g2 i r hr
    rcases Nat.lt_or_ge (i + 1) rs.length with q | q
    · exact q
    · have := (a6 (by (first | exact omq352 _ _ hi q | omega))).2.2 hring; (first | exact omq354 _ _ _ hc (by assumption) this | omega)
  refine ⟨fun i hi => Nat.mod_lt _ g0, fun i g hi hg => ?_, fun i => ?_, fun i hi hc => ?_, fun i hi hc => ?_, fun i hi hc hH => ?_, fun i hi hc => (cz i hi hc).1, fun i hi => ?_, fun i hi => ?_, by show rs.length ≤ 100; (first | exact omq355 _ g0 g1 | omega)⟩
  · obtain ⟨r, hr⟩ := row_at i hi
    rw [(chain_row hr).2] at hg
    exact (g2 i r hr).2.2.1 g hg
  · show 1 ≤ if ring = true then 21 else (rs.length - 1 - i) + 1
    split <;> (first | exact omq356 _ _ | omega)
  · obtain ⟨e1, e2⟩ := cz i hi hc
    show (if ring = true then 21 else (rs.length - 1 - i) + 1) = 1
    rw [e2, if_neg (by decide)]; (first | exact omq357 _ _ e1 | omega)
  · show (if ring = true then 21 else (rs.length - 1 - i) + 1) = (if ring = true then 21 else (rs.length - 1 - (i + 1) % rs.length) + 1) + 1 ∨ (21 ≤ (if ring = true then 21 else (rs.length - 1 - i) + 1) ∧ 21 ≤ if ring = true then 21 else (rs.length - 1 - (i + 1) % rs.length) + 1)
    cases hr : ring with
    | true => rw [if_pos rfl, if_pos rfl]; right; exact ⟨by decide, by decide⟩
    | false =>
      rw [if_neg (by decide), if_neg (by decide)]
      have := cp i hi hc hr
      rw [Nat.mod_eq_of_lt this]
      left; (first | exact omq358 _ _ this | omega)
  · show (i + 1) % rs.length = i + 1
    have hH' : (if ring = true then 21 else (rs.length - 1 - i) + 1) ≤ 20 := hH
    cases hr : ring with
    | true => rw [hr, if_pos rfl] at hH'; (first | exact omq359 _ _ hH' | omega)
    | false => exact Nat.mod_eq_of_lt (cp i hi hc hr)
  · obtain ⟨r, hr⟩ := row_at i hi
    rw [(chain_row hr).1, (chain_row hr).2]
    obtain ⟨_, _, _, _, a5, a6⟩ := g2 i r hr
    rcases Nat.lt_or_ge (i + 1) rs.length with q | q
    · have := a5 q; (first | exact omq360 _ _ (by assumption) (by assumption) this | omega)
    · have := (a6 (by have : i < rs.length := hi; (first | exact omq361 _ _ q this | omega))).1
      have := List.length_pos_iff.mpr this
      (first | exact omq362 _ _ (by assumption) (by assumption) this | omega)
  · obtain ⟨r, hr⟩ := row_at i hi
    rw [(chain_row hr).1, (chain_row hr).2]
    obtain ⟨_, a2, _, a4, _⟩ := g2 i r hr
    exact ⟨a4, a2⟩
theorem rowsOf_at {ord : Bool} {i : Nat} (hi : i < rs.length) : rowsOf rs ord ((10 + i : Nat) : Int) = some (rowItems rs ord i) := by
  unfold rowsOf
  rw [if_pos (by (first | exact omq363 _ _ hi | omega)), show (((10 + i : Nat) : Int) - 10).toNat = i by (first | exact omq364 _ | omega)]
noncomputable def wordAt (rs : List PRow) (i : Nat) : Str := (rs[i]?.map wordOf).getD ""
theorem rows_expr (i : Nat) (hi : i < (chainOf rs ring).n) : rowsOf rs false ((10 + i : Nat) : Int) = some (.nm (wordAt rs i) :: (chainOf rs ring).parts i) := by
  have hi' : i < rs.length := hi
  obtain ⟨r, hr⟩ := row_at i hi'
  rw [rowsOf_at hi']
  unfold rowItems wordAt Chain.parts
  rw [(chain_row hr).1, (chain_row hr).2, hr]
  rfl
theorem joined_some (r : PRow) (bs : List Bool) (h : bs.length = r.c + r.gs.length) : ∃ b, joined (wordOf r) bs = some b := by
  rcases word_cases r with ⟨hw, hl⟩ | hw | hw
  · rw [hw]
    match bs, h with
    | [b], _ => exact ⟨!b, rfl⟩
    | [], e => simp at e; (first | exact (omq365 _ _ hl e).elim | omega)
    | _ :: _ :: _, e => simp at e; (first | exact (omq366 _ _ _ hl e).elim | omega)
  · rw [hw]; exact ⟨_, rfl⟩
  · rw [hw]; exact ⟨_, rfl⟩
theorem truth_at (g : GoodPlan rs ring) (st : Nat → Bool) (i : Nat) (hi : i < (chainOf rs ring).n) (hH : (chainOf rs ring).H i ≤ 20) :
    joined (wordAt rs i) (List.replicate ((chainOf rs ring).cnt i) (truthOf st (rs.drop ((chainOf rs ring).nx i))) ++ ((chainOf rs ring).gs i).map st) = some (truthOf st (rs.drop i)) := by
  have ok := chain_ok g
  have hi' : i < rs.length := hi
  obtain ⟨r, hr⟩ := row_at i hi'
  have hw : wordAt rs i = wordOf r := by unfold wordAt; rw [hr]; rfl
  have e : List.replicate ((chainOf rs ring).cnt i) (truthOf st (rs.drop ((chainOf rs ring).nx i))) ++ ((chainOf rs ring).gs i).map st = List.replicate r.c (truthOf st (rs.drop (i + 1))) ++ r.gs.map st := by
    rcases Nat.eq_zero_or_pos ((chainOf rs ring).cnt i) with q | q
    · have q' := q
      rw [(chain_row hr).1] at q'
      rw [q, q', (chain_row hr).2]; rfl
    · rw [ok.ord i hi q hH, (chain_row hr).1, (chain_row hr).2]
  rw [e, hw, drop_at hr]
  obtain ⟨b, hb⟩ := joined_some r (List.replicate r.c (truthOf st (rs.drop (i + 1))) ++ r.gs.map st) (by simp)
  show _ = some ((joined (wordOf r) (List.replicate r.c (truthOf st (rs.drop (i + 1))) ++ r.gs.map st)).getD false)
  rw [hb]; rfl
/-- the order's chain -/
noncomputable def ochainOf (rs : List PRow) (ring : Bool) : OChain where
  toChain := chainOf rs ring
  lab i := (rs[i]?.map fun r => if r.k = 2 then some (byteArr [65 + (i : Int)]) else none).getD none
  cn i := (rs[i]?.map fun r => r.c * countOf (rs.drop (i + 1)) + r.gs.length).getD 0
theorem ochain_row {i : Nat} {r : PRow} (h : rs[i]? = some r) : (ochainOf rs ring).lab i = (if r.k = 2 then some (byteArr [65 + (i : Int)]) else none) ∧ (ochainOf rs ring).cn i = r.c * countOf (rs.drop (i + 1)) + r.gs.length ∧ (ochainOf rs ring).labN i = if r.k = 2 then 1 else 0 := by
  have e1 : (ochainOf rs ring).lab i = (if r.k = 2 then some (byteArr [65 + (i : Int)]) else none) := by unfold ochainOf; dsimp only; rw [h]; rfl
  refine ⟨e1, by unfold ochainOf; dsimp only; rw [h]; rfl, ?_⟩
  unfold OChain.labN
  rw [e1]
  split <;> rfl
theorem count_at {i : Nat} (hi : i < rs.length) : (ochainOf rs ring).cn i + (ochainOf rs ring).labN i = countOf (rs.drop i) := by
  obtain ⟨r, hr⟩ := row_at i hi
  rw [(ochain_row hr).2.1, (ochain_row hr).2.2, drop_at hr]
  rfl
theorem ochain_ok (g : GoodPlan rs ring) : (ochainOf rs ring).OkO := by
  have ok := chain_ok g
  refine { ok with cnt_ := fun i hi hH => ?_ }
  obtain ⟨r, hr⟩ := row_at i (show i < rs.length from hi)
  have ec : (ochainOf rs ring).cnt i = r.c := (chain_row hr).1
  have eg : (ochainOf rs ring).gs i = r.gs := (chain_row hr).2
  rw [(ochain_row hr).2.1, ec, eg]
  rcases Nat.eq_zero_or_pos r.c with q | q
  · rw [q, Nat.zero_mul, Nat.zero_mul]
  · have hc : 0 < (chainOf rs ring).cnt i := by rw [(chain_row hr).1]; exact q
    have hn : (ochainOf rs ring).nx i = i + 1 := ok.ord i hi hc hH
    have hlt : i + 1 < rs.length := by have := ok.nx_lt i hi; rw [ok.ord i hi hc hH] at this; exact this
    rw [hn, count_at hlt]
theorem rows_order (i : Nat) (hi : i < (ochainOf rs ring).n) : rowsOf rs true ((10 + i : Nat) : Int) = some ((ochainOf rs ring).lb i ++ (ochainOf rs ring).parts i) := by
  have hi' : i < rs.length := hi
  obtain ⟨r, hr⟩ := row_at i hi'
  have ec : (ochainOf rs ring).cnt i = r.c := (chain_row hr).1
  have eg : (ochainOf rs ring).gs i = r.gs := (chain_row hr).2
  rw [rowsOf_at hi']
  unfold rowItems OChain.lb Chain.parts
  rw [(ochain_row hr).1, ec, eg, hr]
  by_cases hk : r.k = 2
  · rw [if_pos hk]; dsimp only; rw [if_pos rfl, if_pos hk]; rfl
  · rw [if_neg hk]; dsimp only; rw [if_pos rfl, if_neg hk]; rfl
theorem nrows_is (g : GoodPlan rs ring) : ∀ (f q d : Nat), q < rs.length → (ochainOf rs ring).H q ≤ f → (ochainOf rs ring).H q ≤ 20 → (ochainOf rs ring).nrows f q d = lrows (rs.drop q) q d
  | 0, q, d, hq, hf, _ => by have := (chain_ok g).H1 q; have : (ochainOf rs ring).H q = (chainOf rs ring).H q := rfl; (first | exact (omq367 _ _ hf (by assumption) this).elim | omega)
  | f + 1, q, d, hq, hf, h20 => by
    have ok := chain_ok g
    obtain ⟨r, hr⟩ := row_at q hq
    have ec : (ochainOf rs ring).cnt q = r.c := (chain_row hr).1
    have eg : (ochainOf rs ring).gs q = r.gs := (chain_row hr).2
    rw [drop_at hr]
    show (match (ochainOf rs ring).lab q with | some b => [RowT.lab d b] | none => []) ++ ((List.replicate ((ochainOf rs ring).cnt q) ((ochainOf rs ring).nrows f ((ochainOf rs ring).nx q) (d + 1))).flatten ++ ((ochainOf rs ring).gs q).map (RowT.grp (d + 1))) = (if r.k = 2 then [RowT.lab d (byteArr [65 + (q : Int)])] else []) ++ ((List.replicate r.c (lrows (rs.drop (q + 1)) (q + 1) (d + 1))).flatten ++ r.gs.map (RowT.grp (d + 1)))
    have e1 : (match (ochainOf rs ring).lab q with | some b => [RowT.lab d b] | none => []) = if r.k = 2 then [RowT.lab d (byteArr [65 + (q : Int)])] else [] := by
      rw [(ochain_row hr).1]
      by_cases hk : r.k = 2
      · rw [if_pos hk, if_pos hk]
      · rw [if_neg hk, if_neg hk]
    rw [e1, ec, eg]
    rcases Nat.eq_zero_or_pos r.c with z | z
    · rw [z]; rfl
    · have hc : 0 < (chainOf rs ring).cnt q := by rw [(chain_row hr).1]; exact z
      have hn : (ochainOf rs ring).nx q = q + 1 := ok.ord q hq hc h20
      have hlt : q + 1 < rs.length := by have := ok.nx_lt q hq; rw [ok.ord q hq hc h20] at this; exact this
      have hHH : (ochainOf rs ring).H q = (ochainOf rs ring).H (q + 1) + 1 := by
        have a := ok.HS q hq hc
        rw [ok.ord q hq hc h20] at a
        have h20' : (chainOf rs ring).H q ≤ 20 := h20
        show (chainOf rs ring).H q = (chainOf rs ring).H (q + 1) + 1
        rcases a with a | a
        · exact a
        · (first | exact omq155 _ _ h20' a | omega)
      rw [hn, nrows_is g f (q + 1) (d + 1) hlt (by (first | exact omq156 _ _ _ hf hHH | omega)) (by (first | exact omq157 _ _ h20 hHH | omega))]
theorem deep_iff (g : GoodPlan rs ring) : (20 < (chainOf rs ring).H 0) ↔ (ring = true ∨ 20 < rs.length) := by
  show 20 < (if ring = true then 21 else (rs.length - 1 - 0) + 1) ↔ _
  have := g.1
  cases ring with
  | true => simp
  | false => simp; (first | exact omq368 _ this | omega)
end

/-! QL15 -/
section
variable {prog : Program} {w : World} {A : Around} {Q E : Value → Shared → Prop} {s : Shared} 
theorem rF {h₀ : Heap} {L : Addr} {env : Env} {cl : List (Str × Addr)} {l : List (Str × Value)} {lc : List (Str × Option Value)} {news : List (Addr × Obj)} {x : Str} {pos : Pos} {v : Value} {Q : Value → Shared → Prop} (S : St w h₀ L cl l lc news s.heap) (hv : lc.lookup x = some (some v)) (h : Q v s)
    (he : Env0 env L := by exact ⟨rfl, rfl, rfl, rfl⟩) (hx : env.kindOf x = some .free := by rfl) (hc : env.cells.lookup x = cl.lookup x := by rfl) (hd : (x == ("__debug__" : Str)) = false := by decide) (hn : (x == ("__classdict__" : Str)) = false := by decide) :
    wpAny (model prog w) A (eval (.Name x pos) env) Q E s := by
  obtain ⟨c, o, a1, a2, a3, _⟩ := S.ce _ _ hv
  exact wpAny_Name (wpAny_loadName_free he.fn hx (hc.trans a1) ⟨o, a2, a3⟩ h hn) hd
noncomputable abbrev noArgs : Arguments := { posonlyargs := [], args := [], vararg := none, kwonlyargs := [], kw_defaults := [], kwarg := none, defaults := [] }
/-- the first deed: the expression's state -/
theorem deed1 {rs : List PRow} {ring ok : Bool} (g : GoodPlan rs ring) {st : Nat → Bool} {base h₀ H : Heap} {sh sd f c' c1 c2 : Addr} {fs : Int → Option Value} {nm qual : Str} {pm ctv : Value} {p1 p2 p3 p4 p5 p6 p7 p8 : Pos} {x1 x2 : Nat} (hok : ok = true ↔ (chainOf rs ring).H 0 ≤ 20)
    (W : Wd w h₀) (kH : h₀.StaysIn H)
    (hf : h₀.get? f = some (kla_obj nm qual noArgs (.Call (.Name "expression_state" p1) [.Name "shelf" p2, .Name "states" p3, .Call (.Name "Reference" p4) [.Constant (.int 10) x1 p5, .Constant (.int 0) x2 p6] [] p7] [] p8)
      { kind := .function, names := [("shelf", .free), ("states", .free), ("expression_state", .globalImplicit), ("Reference", .globalImplicit)], isGenerator := false, isCoroutine := false, more := [] } [("states", c2), ("shelf", c1)] pm c' ctv))
    (hcd : h₀.CodeRec (.ref c') qual) (hc1 : ∃ o, H.get? c1 = some o ∧ o.data = .cell (some (.ref sh))) (hc2 : ∃ o, H.get? c2 = some o ∧ o.data = .cell (some (.ref sd))) (n1 : h₀.get? c1 = none) (n2 : h₀.get? c2 = none)
    (hs : ShelfAt prog w h₀ sh (rowsOf rs false)) (hst : h₀.MapOf (intKind prog w) sd fs) (losd : (sd == sysModules) = false) (hfs : ∀ g : Nat, 1 ≤ g → g ≤ 4 → fs (g : Int) = some (.bool (st g))) :
    ∀ (A' : Around) (s' : Shared) (Q' E' : Value → Shared → Prop) (outer' : List Env), Rm A' 64 230 → Below A' base outer' s'.heap → H.StaysIn s'.heap → Wd w s'.heap →
      (ok = true → ∀ h' tk v, s'.heap.StaysIn h' → v = .bool (truthOf st rs) → Q' v { s' with heap := h', toks := tk }) →
      (ok = false → ∀ e h' tk, Fly base outer' s'.heap e h' → E' (.ref e) { s' with heap := h', toks := tk }) →
      wpAny (model prog w) A' (call (.ref f) []) Q' E' s' := by
  intro A' s' Q' E' outer' R B kS W' hok' hno'
  have k0 := stays_trans kH kS
  have kW : h₀.StaysIn (hideAll s'.heap [c2, c1]) := fun b o e => hideAll_get _ (k0 _ _ e) fun hm => by
    rcases List.mem_cons.mp hm with q | hm
    · rw [q, n2] at e; cases e
    · rw [List.mem_singleton.mp hm, n1] at e; cases e
  refine enterLam [("shelf", some (.ref sh)), ("states", some (.ref sd))] (k0 _ _ hf) (Heap.CodeRec.keeps hcd k0) R.room (W.keeps kW) ?_ (fun h₁ tk S k₁ => ?_) rfl rfl rfl (by decide)
  · intro x v e
    rw [List.lookup_cons] at e
    cases q : x == "shelf" with
    | true => rw [q] at e; cases e; rw [beq_iff_eq.mp q]; obtain ⟨o, a, b⟩ := hc1; exact ⟨c1, o, rfl, kS _ _ a, b⟩
    | false =>
      rw [q] at e
      replace e : List.lookup x [("states", some (.ref sd))] = some v := e
      rw [List.lookup_cons] at e
      cases q : x == "states" with
      | true => rw [q] at e; cases e; rw [beq_iff_eq.mp q]; obtain ⟨o, a, b⟩ := hc2; exact ⟨c2, o, rfl, kS _ _ a, b⟩
      | false => rw [q] at e; cases e
  replace S : St w (hideAll s'.heap [c2, c1]) _ _ _ _ _ _ := S
  have lz1 := get_size s'.heap
  repeat (walk_at "st")
  rename St _ _ _ _ _ _ _ _ => S
  refine rF S rfl ?_
  repeat (walk_at "st")
  refine rF S rfl ?_
  repeat (walk_at "st")
  refine mkRef S.wdh (R.dp (d' := 0) (u' := 0)) fun h' tk a k2 hra => ?_
  have S2 := S.keeps k2
  have kk := stays_trans k₁ k2
  clear S
  repeat (walk_at "st")
  rename St _ _ _ _ _ _ _ _ => S
  obtain ⟨oL, es, n, hL, hLd⟩ := S.here
  refine state_fn (chainOf rs ring) (chain_ok g) (fun i => truthOf st (rs.drop i)) st (wordAt rs) (rowsOf rs false) rows_expr (truth_at g st) g.1 (base := base) S.wdh (R.dp (by decide) (by decide)) (belowAt B kk rfl rfl hL (fun vs q => by rw [hLd] at q; cases q) (fresh_of_stays B.stays lz1)) (hra.keep newer_stays) (hs.keep (stays_trans kW S.out)) (mapKeep hst (stays_trans kW S.out)) losd hfs ?_ ?_
  · intro hle h3 tk3 k3
    exact hok' (hok.mpr hle) _ _ _ (stays_trans kk k3) rfl
  · intro hle e h3 tk3 fly
    exact leaveOn B kk fly rfl fun h4 fl => hno' (by cases ok with | false => rfl | true => have := hok.mp rfl; (first | exact (omq369 _ hle this).elim | omega)) e h4 _ fl
/-- the second deed: the order's rows -/
theorem deed2 {rs : List PRow} {ring ok : Bool} (g : GoodPlan rs ring) {base h₀ H : Heap} {p f c' c1 : Addr} {vs : List Value} {kp : Nat} {nm qual : Str} {pm ctv : Value} {p1 p2 p3 p4 p5 p6 p7 p8 p9 p10 p11 : Pos} {x0 x1 x2 : Nat} (hok : ok = true ↔ ((chainOf rs ring).H 0 ≤ 20 ∧ countOf rs ≤ 10000))
    (W : Wd w h₀) (kH : h₀.StaysIn H)
    (hf : h₀.get? f = some (kla_obj nm qual noArgs (.Call (.Name "order_rows" p1) [.Call (.Name "_law_shelf" p2) [.Name "plan" p3, .Constant (.bool true) x0 p4] [] p5, .List [.Call (.Name "Reference" p6) [.Constant (.int 10) x1 p7, .Constant (.int 0) x2 p8] [] p9] p10] [] p11)
      { kind := .function, names := [("plan", .free), ("order_rows", .globalImplicit), ("_law_shelf", .globalImplicit), ("Reference", .globalImplicit)], isGenerator := false, isCoroutine := false, more := [] } [("plan", c1)] pm c' ctv))
    (hcd : h₀.CodeRec (.ref c') qual) (hc1 : ∃ o, H.get? c1 = some o ∧ o.data = .cell (some (.ref p))) (n1 : h₀.get? c1 = none)
    (hp : h₀.get? p = some (lstO vs kp)) (hpl : PlanIs h₀ vs rs) :
    ∀ (A' : Around) (s' : Shared) (Q' E' : Value → Shared → Prop) (outer' : List Env), Rm A' 64 230 → Below A' base outer' s'.heap → H.StaysIn s'.heap → Wd w s'.heap →
      (ok = true → ∀ h' tk v, s'.heap.StaysIn h' → (∃ D vs k, v = .ref D ∧ h'.get? D = some (lstO vs k) ∧ RowsAre h' vs (lrows rs 0 0)) → Q' v { s' with heap := h', toks := tk }) →
      (ok = false → ∀ e h' tk, Fly base outer' s'.heap e h' → E' (.ref e) { s' with heap := h', toks := tk }) →
      wpAny (model prog w) A' (call (.ref f) []) Q' E' s' := by
  intro A' s' Q' E' outer' R B kS W' hok' hno'
  have k0 := stays_trans kH kS
  have kW : h₀.StaysIn (hideAll s'.heap [c1]) := fun b o e => hideAll_get _ (k0 _ _ e) fun hm => by
    rw [List.mem_singleton.mp hm, n1] at e; cases e
  refine enterLam [("plan", some (.ref p))] (k0 _ _ hf) (Heap.CodeRec.keeps hcd k0) R.room (W.keeps kW) ?_ (fun h₁ tk S k₁ => ?_) rfl rfl rfl (by decide)
  · intro x v e
    rw [List.lookup_cons] at e
    cases q : x == "plan" with
    | true => rw [q] at e; cases e; rw [beq_iff_eq.mp q]; obtain ⟨o, a, b⟩ := hc1; exact ⟨c1, o, rfl, kS _ _ a, b⟩
    | false => rw [q] at e; cases e
  replace S : St w (hideAll s'.heap [c1]) _ _ _ _ _ _ := S
  have lz1 := get_size s'.heap
  obtain ⟨g0, g1, g2⟩ := id g
  repeat (walk_at "st")
  rename St _ _ _ _ _ _ _ _ => S
  have kwS := stays_trans kW S.out
  refine rF S rfl ?_
  repeat (walk_at "st")
  refine law_shelf (ord := true) S.wdh R.dp (kwS _ _ hp) (hpl.keep kwS) g0 g1 (fun j r hr => let x := g2 j r hr; ⟨x.1, x.2.1, x.2.2.2.1⟩) fun h' tk sh k2 hsh => ?_
  have S2 := S.keeps k2
  have kk := stays_trans k₁ k2
  have hsh1 := hsh.keep newer_stays
  clear S
  repeat (walk_at "st")
  refine mkRef S2.wdh (R.dp (d' := 0) (u' := 0)) fun h3 tk3 a k3 hra => ?_
  have S3 := S2.keeps k3
  have kk3 := stays_trans kk k3
  have hra1 := hra.keep newer_stays
  clear S2
  repeat (walk_at "st")
  rename St _ _ _ _ _ _ _ _ => S
  rename Heap.StaysIn _ _ => k4
  have kk4 := stays_trans kk3 k4
  obtain ⟨oL, es, n, hL, hLd⟩ := S.here
  have hItem : ∀ h6 : Heap, h3.StaysIn h6 → Its w h6 [.ref a] [.ref ((10 + 0 : Nat) : Int)] := fun h6 k6 => ⟨⟨a, rfl, hra1.keep k6⟩, trivial⟩
  have hcnt : (ochainOf rs ring).cn 0 + (ochainOf rs ring).labN 0 = countOf rs := by rw [count_at g0, List.drop_zero]
  cases ok with
  | true =>
    obtain ⟨hH, hC⟩ := hok.mp rfl
    have hH' : (ochainOf rs ring).H 0 ≤ 20 := hH
    refine orows (ochainOf rs ring) (ochain_ok g) (rowsOf rs true) rows_order ((ochainOf rs ring).H 0) 0 _ _ _ _ sh _ 718 _ [.ref a] _ 1 0 [] (.inr ⟨rfl, rfl, rfl⟩) (fun _ => ⟨g0, Nat.le_refl _, by (first | exact omq370 _ hH' | omega)⟩) (fun g hg => nomatch hg) (by decide) (by decide) (by decide) (by rw [Nat.one_mul, hcnt, List.length_nil]; (first | exact omq371 _ hC | omega)) S.wdh (R.dp (by (first | exact omq372 _ hH' | omega)) (by (first | exact omq373 _ hH' | omega))) (fun _ => ⟨_, _, belowAt B kk4 rfl rfl hL (fun vs q => by rw [hLd] at q; cases q) (fresh_of_stays B.stays lz1)⟩) (S.new (.head _)) (hItem _ k4) (hsh1.keep (stays_trans k3 k4)) fun h5 tk5 D vs5 kD k5 nD hD hra5 => ?_
    rw [nrows_is g _ 0 0 g0 (Nat.le_refl _) hH', List.drop_zero] at hra5
    exact hok' rfl _ _ _ (stays_trans kk4 k5) ⟨D, vs5, kD, rfl, hD, by simpa using hra5⟩
  | false =>
    refine orows_raise (ochainOf rs ring) (ochain_ok g) (rowsOf rs true) rows_order g0 S.wdh (R.dp (by decide) (by decide)) (belowAt B kk4 rfl rfl hL (fun vs q => by rw [hLd] at q; cases q) (fresh_of_stays B.stays lz1)) (S.new (.head _)) (hItem _ k4) (hsh1.keep (stays_trans k3 k4)) ?_ fun e h5 tk5 fly => ?_
    · rw [hcnt]
      show 20 < (chainOf rs ring).H 0 ∨ ((chainOf rs ring).H 0 ≤ 20 ∧ _)
      rcases Nat.lt_or_ge 20 ((chainOf rs ring).H 0) with q | q
      · exact .inl q
      · refine .inr ⟨q, ?_⟩
        rcases Nat.lt_or_ge 10000 (countOf rs) with z | z
        · exact z
        · exact absurd (hok.mpr ⟨q, z⟩) (by decide)
    · exact leaveOn B kk4 fly rfl fun h6 fl => hno' rfl e h6 _ fl
end

/-! QL16 -/
section
theorem ce3 {cl : List (Str × Addr)} {h h₀ : Heap} {L : Addr} {x1 x2 x3 : Str} {v1 v2 v3 : Option Value} (H1 : ∃ c o, cl.lookup x1 = some c ∧ h.get? c = some o ∧ o.data = .cell v1 ∧ c ≠ L ∧ h₀.get? c = none) (H2 : ∃ c o, cl.lookup x2 = some c ∧ h.get? c = some o ∧ o.data = .cell v2 ∧ c ≠ L ∧ h₀.get? c = none) (H3 : ∃ c o, cl.lookup x3 = some c ∧ h.get? c = some o ∧ o.data = .cell v3 ∧ c ≠ L ∧ h₀.get? c = none) :
    ∀ x v, List.lookup x [(x1, v1), (x2, v2), (x3, v3)] = some v → ∃ c o, cl.lookup x = some c ∧ h.get? c = some o ∧ o.data = .cell v ∧ c ≠ L ∧ h₀.get? c = none := by
  intro x v e
  rw [List.lookup_cons] at e
  cases q : x == x1 with
  | true => rw [q] at e; cases e; rw [beq_iff_eq.mp q]; exact H1
  | false =>
    rw [q] at e
    replace e : List.lookup x [(x2, v2), (x3, v3)] = some v := e
    rw [List.lookup_cons] at e
    cases q : x == x2 with
    | true => rw [q] at e; cases e; rw [beq_iff_eq.mp q]; exact H2
    | false =>
      rw [q] at e
      replace e : List.lookup x [(x3, v3)] = some v := e
      rw [List.lookup_cons] at e
      cases q : x == x3 with
      | true => rw [q] at e; cases e; rw [beq_iff_eq.mp q]; exact H3
      | false => rw [q] at e; cases e
theorem hap_of {cl : List (Str × Addr)} (hn : (cl.map (·.2)).Nodup) (x : Str) : ∀ y, y ≠ x → cl.lookup y ≠ cl.lookup x ∨ cl.lookup y = none := by
  intro y hy
  cases e : cl.lookup y with
  | none => exact .inr rfl
  | some c =>
    left
    intro q
    have m1 := mem_of_lookup e
    have m2 := mem_of_lookup q.symm
    clear e q
    induction cl with
    | nil => cases m1
    | cons p r ih =>
      rw [List.map_cons] at hn
      obtain ⟨n1, n2⟩ := List.nodup_cons.mp hn
      rcases List.mem_cons.mp m1 with e1 | m1
      · rcases List.mem_cons.mp m2 with e2 | m2
        · rw [← e1] at e2; cases e2; exact hy rfl
        · rw [← e1] at n1; exact n1 (List.mem_map.mpr ⟨_, m2, rfl⟩)
      · rcases List.mem_cons.mp m2 with e2 | m2
        · rw [← e2] at n1; exact n1 (List.mem_map.mpr ⟨_, m1, rfl⟩)
        · exact ih n2 m1 m2
variable {w : World} {h₀ h h' : Heap} {L : Addr} {cl : List (Str × Addr)} {l : List (Str × Value)} {lc lc' : List (Str × Option Value)} {news : List (Addr × Obj)}
noncomputable def SubL (lc : List (Str × Option Value)) : List (Str × Option Value) → Prop
  | [] => True
  | (x, v) :: r => lc.lookup x = some v ∧ SubL lc r
theorem SubL.look : ∀ {l' : List (Str × Option Value)}, SubL lc l' → ∀ {x v}, l'.lookup x = some v → lc.lookup x = some v
  | [], _, _, _, e => nomatch e
  | (y, u) :: r, ⟨h1, h2⟩, x, v, e => by
    rw [List.lookup_cons] at e
    cases q : x == y with
    | true => rw [q] at e; cases e; rw [beq_iff_eq.mp q]; exact h1
    | false => rw [q] at e; exact SubL.look h2 e
theorem St.prune (S : St w h₀ L cl l lc news h) (hs : SubL lc lc') : St w h₀ L cl l lc' news h :=
  ⟨S.fr, S.fz, S.lz, S.nw, fun x v e => S.ce x v (hs.look e), S.nd⟩
theorem St.adoptBut {src : Addr} {o : Obj} {g : Heap} (S : St w h₀ L cl l lc ((src, o) :: news) h) (ho : ∀ v, o.data ≠ .cell v) (kk : ∀ b x, b ∉ [src] → h.get? b = some x → h'.get? b = some x) (gh : g.StaysIn h') (hg : (hideAll h [src]).StaysIn g) (gs : g.get? src = none) :
    ∃ h₁, St w h₁ L cl l lc news h' ∧ h₀.StaysIn h₁ ∧ (newer (hideAll h [src]) g).StaysIn h₁ := by
  have S1 := S.but ho kk
  obtain ⟨h₁, S2, k2, eq⟩ := S1.cool
  refine ⟨h₁, S2, k2, fun b x e => ?_⟩
  rw [eq]
  refine hideAll_get _ (gh _ _ (newer_stays _ _ e)) fun hm => ?_
  have hb : b ≠ src := fun q => by have := newer_stays _ _ e; rw [q, gs] at this; cases this
  have hn := newer_none e
  obtain ⟨o', e'⟩ := S.loose_in (b := b) (by
    unfold loose at hm ⊢
    rw [List.map_cons]
    rcases List.mem_append.mp hm with hm | hm
    · exact List.mem_append_left _ hm
    · exact List.mem_append_right _ (.tail _ hm))
  rw [hideAll_get _ e' (by simpa using hb)] at hn
  cases hn
open PySem.SeqAt in
theorem EqAt.bytes_same {A : Around} {s : Shared} (b : Array UInt8) (t u : Tok) : EqAt A s (.bytes b t) (.bytes b u) true := fun prog w E Q h => by
  unfold eqBool
  refine wpAny_holding ?_
  refine wpAny_ite_split (fun hab => ?_) (fun _ => ?_)
  · exact wpAny_bind (wpAny_rule (wpAny_pure h))
  · refine wpAny_bind ?_
    have h1 : wpAny (model prog w) A (truthOfDropped (.bool true)) Q E s := wpAny_truthy_bool h
    have := eq_bytes (prog := prog) (w := w) (A := A) (E := E) (s := s) (b := b) (c := b) (t := t) (u := u) (Q := fun v s' => wpAny (model prog w) A (truthOfDropped v) Q E s') (by rw [beq_self_eq_true]; exact h1)
    exact this
theorem RowIs.fresh_ne {h : Heap} {v : Value} {r : RowT} (x : RowIs h v r) : ∃ t a b c m, v = .ref t ∧ h.get? t = some (tupO [a, b, c] m) := by
  cases r with
  | grp d n => obtain ⟨t, t1, t2, t3, m, e1, e2⟩ := x; exact ⟨t, _, _, _, m, e1, e2⟩
  | lab d n => obtain ⟨t, t1, t2, t3, m, e1, e2⟩ := x; exact ⟨t, _, _, _, m, e1, e2⟩
open PySem.SeqAt in
theorem three_eq {A : Around} {s : Shared} {a b : Addr} {x1 x2 x3 y1 y2 y3 : Value} {m n : Nat} (ha : s.heap.get? a = some (tupO [x1, x2, x3] m)) (hb : s.heap.get? b = some (tupO [y1, y2, y3] n)) (hu : A.units < cLine)
    (e1 : EqAt A.in1 s x1 y1 true) (e2 : EqAt A.in1 s x2 y2 true) (e3 : EqAt A.in1 s x3 y3 true) : EqAt A s (.ref a) (.ref b) true := by
  by_cases q : a = b
  · rw [q]; exact EqAt.same _
  · refine EqAt.of_refs q ?_
    refine RcAt.tuples (items := #[x1, x2, x3]) (items2 := #[y1, y2, y3]) (e := fun _ => true) ⟨_, ha, rfl, _, rfl⟩ ⟨_, hb, rfl, _, rfl⟩ hu fun j h1 h2 => ?_
    match j, h1, h2 with
    | 0, _, _ => exact e1
    | 1, _, _ => exact e2
    | 2, _, _ => exact e3
    | j + 3, h1, _ => exact absurd h1 (by simp)
open PySem.SeqAt in
theorem row_eq {A : Around} {s : Shared} {v u : Value} {r : RowT} (hu : A.units < cLine) (x : RowIs s.heap v r) (y : RowIs s.heap u r) : EqAt A s v u true := by
  have es : ∀ (a : Str) (t t' : Tok), EqAt A.in1 s (.str a t) (.str a t') true := fun a t t' => by have := EqAt.str_str (A := A.in1) (s := s) a t a t'; rwa [beq_self_eq_true] at this
  have ei : ∀ (a : Int) (t t' : Tok), EqAt A.in1 s (.int a t) (.int a t') true := fun a t t' => by have := EqAt.int_int (A := A.in1) (s := s) a t a t'; rwa [beq_self_eq_true] at this
  cases r with
  | grp d n =>
    obtain ⟨t, t1, t2, t3, m, rfl, e2⟩ := x
    obtain ⟨t', t1', t2', t3', m', rfl, e2'⟩ := y
    exact three_eq e2 e2' hu (es _ _ _) (ei _ _ _) (ei _ _ _)
  | lab d n =>
    obtain ⟨t, t1, t2, t3, m, rfl, e2⟩ := x
    obtain ⟨t', t1', t2', t3', m', rfl, e2'⟩ := y
    exact three_eq e2 e2' hu (es _ _ _) (ei _ _ _) (EqAt.bytes_same _ _ _)
theorem rowsAre_len {h : Heap} : ∀ {vs : List Value} {rs : List RowT}, RowsAre h vs rs → vs.length = rs.length
  | [], [], _ => rfl
  | _ :: _, _ :: _, ⟨_, b⟩ => congrArg (· + 1) (rowsAre_len b)
  | [], _ :: _, x => x.elim
  | _ :: _, [], x => x.elim
theorem rowsAre_at {h : Heap} : ∀ {vs : List Value} {rs : List RowT}, RowsAre h vs rs → ∀ (j : Nat) (h1 : j < vs.length) (h2 : j < rs.length), RowIs h vs[j] rs[j]
  | _ :: _, _ :: _, ⟨a, b⟩, 0, _, _ => a
  | _ :: _, _ :: _, ⟨_, b⟩, j + 1, h1, h2 => rowsAre_at b j (Nat.lt_of_succ_lt_succ h1) (Nat.lt_of_succ_lt_succ h2)
  | [], _, _, _, h1, _ => absurd h1 (by simp)
  | _ :: _, [], x, _, _, _ => x.elim
open PySem.SeqAt in
theorem rows_eq {A : Around} {s : Shared} {a b : Addr} {vs us : List Value} {m n : Nat} {rs : List RowT} (hu : A.units < cLine) (hu1 : A.in1.units < cLine) (ha : s.heap.get? a = some (lstO vs m)) (hb : s.heap.get? b = some (lstO us n)) 
    (x : RowsAre s.heap vs rs) (y : RowsAre s.heap us rs) : EqAt A s (.ref a) (.ref b) true := by
  have lx := rowsAre_len x
  have ly := rowsAre_len y
  by_cases hne : a = b
  · rw [hne]; exact EqAt.same _
  refine EqAt.of_refs hne ?_
  have := RcAt.lists (A := A) (s := s) (e := fun _ => true) (isL ha) (isL hb) (by simp; (first | exact omq374 _ _ _ lx ly | omega)) hu (fun j h1 h2 => by
    have h1' : j < vs.length := by simpa using h1
    have h2' : j < us.length := by simpa using h2
    exact row_eq hu1 (rowsAre_at x j h1' (by (first | exact omq375 _ _ _ _ lx ly h1' | omega))) (rowsAre_at y j h2' (by (first | exact omq375 _ _ _ _ lx ly h1' | omega))))
  rwa [show ((List.range vs.toArray.size).all fun _ => true) = true by simp] at this
end

theorem post_t (ns : List Int) : PySem.Challenge.rw_qd0126_01.row.claim.post [ofPy (PyData.list (List.map PyData.int ns))] (WData.bool true) [ofPy (PyData.list (List.map PyData.int ns))] = true := by
  first
  | (refine postW_of (X := true) ?_ ?_ rfl; · rfl
     · rfl)
  | (refine postW_of (X := true) ?_ ?_ rfl
     · rfl
     · with_unfolding_all rfl)
  | (refine postW_of (X := true) ?_ ?_ rfl
     · rfl
     · show WTm.value _ _ (.eq .res (.lit (.bool true))) = _
       simp [WTm.value])

theorem St.cellAt {w : World} {h₀ h : Heap} {L c : Addr} {cl : List (Str × Addr)} {l : List (Str × Value)} {lc : List (Str × Option Value)} {news : List (Addr × Obj)} {x : Str} {v : Option Value} (S : St w h₀ L cl l lc news h) (hv : lc.lookup x = some v) (hc : cl.lookup x = some c) : (∃ o, h.get? c = some o ∧ o.data = .cell v) ∧ h₀.get? c = none := by
  obtain ⟨c', o, a1, a2, a3, _, a5⟩ := S.ce x v hv
  rw [hc] at a1; cases a1
  exact ⟨⟨o, a2, a3⟩, a5⟩
theorem St.belowBase {w : World} {h base : Heap} {L : Addr} {cl : List (Str × Addr)} {l : List (Str × Value)} {lc : List (Str × Option Value)} {A : Around} {env : Env} {G : Heap} (S : St w base L cl l lc [] h) (B : Below A G [] G) (hf : env.frame = some L) (hk : env.scope.kind = .function) : Below (A.deeper env) base [env] h := by
  obtain ⟨oL, es, n, hL, hLd⟩ := S.here
  exact ⟨Around.frames_deeper B.stack, S.out, by rw [hk]; decide, ⟨L, oL, hf, S.lz, hL, fun vs q => by rw [hLd] at q; cases q⟩, trivial⟩

theorem bu_top {p : Program} {loose : List Str} {mean : ExcName → Option Value} {mg mb : Str → Option Value} {h : Heap} {P : Addr} (T : Top p loose mean mg mb h) (n : h.get? P = none) : h.BuiltinsAt mg P := by
  obtain ⟨bm, ob, b1, b2, b3, b4⟩ := T.bmain
  have apart : ∀ a, h.get? a ≠ some ob → bm ≠ a := fun a q e => q (e ▸ b3)
  refine ⟨bm, ob, b1, b2, apart _ fun e => ?_, apart _ (by rw [n]; exact nofun), b3, b4⟩
  obtain ⟨o, es, k, e', d, _⟩ := T.g
  cases e.symm.trans e'
  have := b4.2.2
  rw [d] at this; cases this

theorem St.frzAt {w : World} {h₀ h : Heap} {L b : Addr} {o : Obj} {cl : List (Str × Addr)} {l : List (Str × Value)} {lc : List (Str × Option Value)} {ps : Array Value} (S : St w h₀ L cl l lc [(475, tabObj ps)] h) (e : h.get? b = some o) (h1 : ∀ es n, o.data ≠ .dict es n) (h2 : ∀ vs, o.data ≠ .fields vs) (h3 : ∀ v, o.data ≠ .cell v) :
    (hideAll h (loose L cl lc [(475, tabObj ps)])).get? b = some o := by
  refine S.frz e (fun q => ?_) (fun q => ?_) h3
  · obtain ⟨oL, es, n, hL, hd⟩ := S.here
    rw [q, hL] at e; cases e; exact h1 _ _ hd
  · rw [List.map_cons, List.map_nil, List.mem_singleton] at q
    have := S.new (.head _)
    rw [q, this] at e; cases e; exact h2 _ rfl
theorem rows_froz {w : World} {h₀ h : Heap} {L : Addr} {cl : List (Str × Addr)} {l : List (Str × Value)} {lc : List (Str × Option Value)} {ps : Array Value} (S : St w h₀ L cl l lc [(475, tabObj ps)] h) : ∀ {us : List Value} {rs : List RowT}, RowsAre h us rs → RowsAre (hideAll h (loose L cl lc [(475, tabObj ps)])) us rs
  | [], [], _ => trivial
  | u :: us, r :: rs, ⟨a, b⟩ => ⟨by
    cases r with
    | grp d n => obtain ⟨t, t1, t2, t3, m, e1, e2⟩ := a; exact ⟨t, t1, t2, t3, m, e1, S.frzAt e2 (fun _ _ q => nomatch q) (fun _ q => nomatch q) (fun _ q => nomatch q)⟩
    | lab d n => obtain ⟨t, t1, t2, t3, m, e1, e2⟩ := a; exact ⟨t, t1, t2, t3, m, e1, S.frzAt e2 (fun _ _ q => nomatch q) (fun _ q => nomatch q) (fun _ q => nomatch q)⟩, rows_froz S b⟩
  | [], _ :: _, x => x.elim
  | _ :: _, [], x => x.elim

/-! QL17 -/
section
-- these names are taken, so that the head's tactic lays no quick twin of its own constants: 453 twins would be 70 MB of the compiled text
theorem Xholds.tw10023575326056044642 : True := trivial
theorem Xholds.tw10090893320399587036 : True := trivial
theorem Xholds.tw10097327286365086006 : True := trivial
theorem Xholds.tw10148482487388133675 : True := trivial
theorem Xholds.tw10204654367298310722 : True := trivial
theorem Xholds.tw1023055005326021114 : True := trivial
theorem Xholds.tw10252452925105562293 : True := trivial
theorem Xholds.tw10263758714162739781 : True := trivial
theorem Xholds.tw10284688604674922932 : True := trivial
theorem Xholds.tw10289898007447340676 : True := trivial
theorem Xholds.tw10352326965921667849 : True := trivial
theorem Xholds.tw10352816991170845946 : True := trivial
theorem Xholds.tw10518747800713204185 : True := trivial
theorem Xholds.tw1056760198303563361 : True := trivial
theorem Xholds.tw10586336506975087012 : True := trivial
theorem Xholds.tw10597595960403348211 : True := trivial
theorem Xholds.tw10609947814252945017 : True := trivial
theorem Xholds.tw10651610142207855730 : True := trivial
theorem Xholds.tw10721040672675279093 : True := trivial
theorem Xholds.tw10736223608206401020 : True := trivial
theorem Xholds.tw10757786707509800549 : True := trivial
theorem Xholds.tw10822503304425689875 : True := trivial
theorem Xholds.tw10825427473310696791 : True := trivial
theorem Xholds.tw10881122689549394329 : True := trivial
theorem Xholds.tw10965265772907115828 : True := trivial
theorem Xholds.tw10979289269697336446 : True := trivial
theorem Xholds.tw11047283106794225459 : True := trivial
theorem Xholds.tw11121741027864798977 : True := trivial
theorem Xholds.tw11148685019748691830 : True := trivial
theorem Xholds.tw11150496318202115411 : True := trivial
theorem Xholds.tw11201091678478523740 : True := trivial
theorem Xholds.tw11228728638184061313 : True := trivial
theorem Xholds.tw11273254569160261031 : True := trivial
theorem Xholds.tw11277801756806437441 : True := trivial
theorem Xholds.tw11277928116502726071 : True := trivial
theorem Xholds.tw11294174638774883649 : True := trivial
theorem Xholds.tw11317964986515663779 : True := trivial
theorem Xholds.tw11398248943260075731 : True := trivial
theorem Xholds.tw11420100007321736903 : True := trivial
theorem Xholds.tw11461791994203237585 : True := trivial
theorem Xholds.tw1146254038139269928 : True := trivial
theorem Xholds.tw11471728024060906780 : True := trivial
theorem Xholds.tw11471855019273141218 : True := trivial
theorem Xholds.tw11473241527989702604 : True := trivial
theorem Xholds.tw11476453050931505919 : True := trivial
theorem Xholds.tw11527253296429182900 : True := trivial
theorem Xholds.tw11541973940106928992 : True := trivial
theorem Xholds.tw11604996060644745092 : True := trivial
theorem Xholds.tw1171980390978926491 : True := trivial
theorem Xholds.tw11749907978528324312 : True := trivial
theorem Xholds.tw11785273594084473710 : True := trivial
theorem Xholds.tw11792467982390698046 : True := trivial
theorem Xholds.tw11803852339473145789 : True := trivial
theorem Xholds.tw1181225883706386448 : True := trivial
theorem Xholds.tw1183005494922304575 : True := trivial
theorem Xholds.tw11872002313046967235 : True := trivial
theorem Xholds.tw11894801232037406776 : True := trivial
theorem Xholds.tw11967783476419161195 : True := trivial
theorem Xholds.tw12024272556497384267 : True := trivial
theorem Xholds.tw12042910853770369689 : True := trivial
theorem Xholds.tw12045026659468499821 : True := trivial
theorem Xholds.tw12057906787890798523 : True := trivial
theorem Xholds.tw12067068522619479956 : True := trivial
theorem Xholds.tw12206259362834305723 : True := trivial
theorem Xholds.tw1221125601991616774 : True := trivial
theorem Xholds.tw12235517091901680201 : True := trivial
theorem Xholds.tw12238808432539295157 : True := trivial
theorem Xholds.tw12288218226377664159 : True := trivial
theorem Xholds.tw12322534814714257019 : True := trivial
theorem Xholds.tw12337037112332824240 : True := trivial
theorem Xholds.tw12417647990953927345 : True := trivial
theorem Xholds.tw12452797926091714313 : True := trivial
theorem Xholds.tw12455581123790089507 : True := trivial
theorem Xholds.tw1247425591227868137 : True := trivial
theorem Xholds.tw12474614263070262300 : True := trivial
theorem Xholds.tw12486728536180124462 : True := trivial
theorem Xholds.tw12521292779848707991 : True := trivial
theorem Xholds.tw12530790956160541735 : True := trivial
theorem Xholds.tw12540730443924666997 : True := trivial
theorem Xholds.tw12568770335995154227 : True := trivial
theorem Xholds.tw12577330692396115732 : True := trivial
theorem Xholds.tw12671375001307524882 : True := trivial
theorem Xholds.tw12720670527774992411 : True := trivial
theorem Xholds.tw12844791244428781868 : True := trivial
theorem Xholds.tw1284612685128034633 : True := trivial
theorem Xholds.tw12863387750076473525 : True := trivial
theorem Xholds.tw12945259783586120770 : True := trivial
theorem Xholds.tw13044695204014917823 : True := trivial
theorem Xholds.tw13074877806624162135 : True := trivial
theorem Xholds.tw1310321896982410281 : True := trivial
theorem Xholds.tw13107335682035837456 : True := trivial
theorem Xholds.tw13115186687279545371 : True := trivial
theorem Xholds.tw13145616524113624277 : True := trivial
theorem Xholds.tw13146004836771012576 : True := trivial
theorem Xholds.tw13158300317317667173 : True := trivial
theorem Xholds.tw13208771758370141449 : True := trivial
theorem Xholds.tw13265930411532914909 : True := trivial
theorem Xholds.tw1341123070695592526 : True := trivial
theorem Xholds.tw13437559679884673693 : True := trivial
theorem Xholds.tw13438675750859115225 : True := trivial
theorem Xholds.tw13517705614890122541 : True := trivial
theorem Xholds.tw13550970642878442892 : True := trivial
theorem Xholds.tw13585048846015577991 : True := trivial
theorem Xholds.tw1360636132212660944 : True := trivial
theorem Xholds.tw1363743822633352876 : True := trivial
theorem Xholds.tw13706375590497644139 : True := trivial
theorem Xholds.tw13713830843089102038 : True := trivial
theorem Xholds.tw13719218261190628955 : True := trivial
theorem Xholds.tw13729372317323767937 : True := trivial
theorem Xholds.tw13730141917364526434 : True := trivial
theorem Xholds.tw13823147601007116596 : True := trivial
theorem Xholds.tw13841594964782006775 : True := trivial
theorem Xholds.tw13877422029836276503 : True := trivial
theorem Xholds.tw14055739938171664018 : True := trivial
theorem Xholds.tw14073505333895056453 : True := trivial
theorem Xholds.tw14115920669713321242 : True := trivial
theorem Xholds.tw14160409869689869953 : True := trivial
theorem Xholds.tw14189688901835546941 : True := trivial
theorem Xholds.tw14261041385310363310 : True := trivial
theorem Xholds.tw14276630411962182434 : True := trivial
theorem Xholds.tw14294017450698465020 : True := trivial
theorem Xholds.tw14345770372102632403 : True := trivial
theorem Xholds.tw14392619152816100435 : True := trivial
theorem Xholds.tw14411536753589701548 : True := trivial
theorem Xholds.tw14431357953079794224 : True := trivial
theorem Xholds.tw144795101417486119 : True := trivial
theorem Xholds.tw14566174516339666793 : True := trivial
theorem Xholds.tw14572644568501472359 : True := trivial
theorem Xholds.tw14577290127482113755 : True := trivial
theorem Xholds.tw14622167862733078564 : True := trivial
theorem Xholds.tw14648335179709909402 : True := trivial
theorem Xholds.tw14700175845444425399 : True := trivial
theorem Xholds.tw14703251090202885765 : True := trivial
theorem Xholds.tw14736513745582024783 : True := trivial
theorem Xholds.tw14745438819660439725 : True := trivial
theorem Xholds.tw14759075975300704027 : True := trivial
theorem Xholds.tw14760807832251243750 : True := trivial
theorem Xholds.tw14892090407798743277 : True := trivial
theorem Xholds.tw14924879413431211443 : True := trivial
theorem Xholds.tw14937522095003288257 : True := trivial
theorem Xholds.tw14940146806322752200 : True := trivial
theorem Xholds.tw14969515888163100389 : True := trivial
theorem Xholds.tw15083198086299301930 : True := trivial
theorem Xholds.tw15086335100499947724 : True := trivial
theorem Xholds.tw15155583676171138323 : True := trivial
theorem Xholds.tw15163246489016691741 : True := trivial
theorem Xholds.tw1517854821018365422 : True := trivial
theorem Xholds.tw15267126661334438322 : True := trivial
theorem Xholds.tw15272822669406002401 : True := trivial
theorem Xholds.tw15321018148597015007 : True := trivial
theorem Xholds.tw15350484994725746875 : True := trivial
theorem Xholds.tw15448206095614223711 : True := trivial
theorem Xholds.tw15457024733018939451 : True := trivial
theorem Xholds.tw154640163635673630 : True := trivial
theorem Xholds.tw15517951694546242086 : True := trivial
theorem Xholds.tw15542732915312971026 : True := trivial
theorem Xholds.tw15555080551894829172 : True := trivial
theorem Xholds.tw15559694816465858513 : True := trivial
theorem Xholds.tw15578807908713812048 : True := trivial
theorem Xholds.tw15594126343238427332 : True := trivial
theorem Xholds.tw156219245980055755 : True := trivial
theorem Xholds.tw15631696583127231727 : True := trivial
theorem Xholds.tw15724906038733911972 : True := trivial
theorem Xholds.tw15733031216980645295 : True := trivial
theorem Xholds.tw15748959891947377594 : True := trivial
theorem Xholds.tw15755867107854171304 : True := trivial
theorem Xholds.tw15802038729410935176 : True := trivial
theorem Xholds.tw15816672153157375861 : True := trivial
theorem Xholds.tw158339129856151842 : True := trivial
theorem Xholds.tw15911089623171948267 : True := trivial
theorem Xholds.tw15911297795035134778 : True := trivial
theorem Xholds.tw15924385285091961104 : True := trivial
theorem Xholds.tw16008173269959157499 : True := trivial
theorem Xholds.tw16063815350236857582 : True := trivial
theorem Xholds.tw16064843625041444242 : True := trivial
theorem Xholds.tw16159380891946135832 : True := trivial
theorem Xholds.tw16185942148100148243 : True := trivial
theorem Xholds.tw16193529811854433712 : True := trivial
theorem Xholds.tw16242071640814731087 : True := trivial
theorem Xholds.tw16247820328265923136 : True := trivial
theorem Xholds.tw16402262163120399789 : True := trivial
theorem Xholds.tw16428855322147208670 : True := trivial
theorem Xholds.tw16560926397675008633 : True := trivial
theorem Xholds.tw16608323593153071271 : True := trivial
theorem Xholds.tw16639366165303747539 : True := trivial
theorem Xholds.tw16780082597151507821 : True := trivial
theorem Xholds.tw1678392996267221264 : True := trivial
theorem Xholds.tw16787207582189971691 : True := trivial
theorem Xholds.tw16831059675418674559 : True := trivial
theorem Xholds.tw16836143144630610461 : True := trivial
theorem Xholds.tw16938905372459908788 : True := trivial
theorem Xholds.tw16949942870602402960 : True := trivial
theorem Xholds.tw16978449703878255519 : True := trivial
theorem Xholds.tw16999260278582048398 : True := trivial
theorem Xholds.tw17047036934908578306 : True := trivial
theorem Xholds.tw170635391699187365 : True := trivial
theorem Xholds.tw17070019363871940163 : True := trivial
theorem Xholds.tw17078457498015144372 : True := trivial
theorem Xholds.tw17136136246556890358 : True := trivial
theorem Xholds.tw17148602921917011129 : True := trivial
theorem Xholds.tw17199322116108781254 : True := trivial
theorem Xholds.tw17227433718998097267 : True := trivial
theorem Xholds.tw17231678216545553273 : True := trivial
theorem Xholds.tw17232671022825165515 : True := trivial
theorem Xholds.tw17285046034487095120 : True := trivial
theorem Xholds.tw17318192128996386192 : True := trivial
theorem Xholds.tw17323075338604626276 : True := trivial
theorem Xholds.tw17408138627037119713 : True := trivial
theorem Xholds.tw17424916040091841936 : True := trivial
theorem Xholds.tw17472949218273938807 : True := trivial
theorem Xholds.tw1749974369810078829 : True := trivial
theorem Xholds.tw1759496116244295491 : True := trivial
theorem Xholds.tw17631419932475860761 : True := trivial
theorem Xholds.tw17673411055682975371 : True := trivial
theorem Xholds.tw17726069787874152904 : True := trivial
theorem Xholds.tw17827813030286703385 : True := trivial
theorem Xholds.tw17899003555585749368 : True := trivial
theorem Xholds.tw17932537243546814196 : True := trivial
theorem Xholds.tw17966979924802426236 : True := trivial
theorem Xholds.tw17975155708596502711 : True := trivial
theorem Xholds.tw18008817008484120394 : True := trivial
theorem Xholds.tw18013575753728033399 : True := trivial
theorem Xholds.tw18039729226134867315 : True := trivial
theorem Xholds.tw18076310014465515072 : True := trivial
theorem Xholds.tw18103402019784707496 : True := trivial
theorem Xholds.tw18138090979736364557 : True := trivial
theorem Xholds.tw18235370980380337871 : True := trivial
theorem Xholds.tw18239623920601406858 : True := trivial
theorem Xholds.tw18239875990057094288 : True := trivial
theorem Xholds.tw18253912744932712813 : True := trivial
theorem Xholds.tw18338530063241230882 : True := trivial
theorem Xholds.tw18341182924703028917 : True := trivial
theorem Xholds.tw18369588252095364058 : True := trivial
theorem Xholds.tw1837688231206805292 : True := trivial
theorem Xholds.tw18414401293865653970 : True := trivial
theorem Xholds.tw1852264521924623871 : True := trivial
theorem Xholds.tw1891445079797466976 : True := trivial
theorem Xholds.tw1900197734390799129 : True := trivial
theorem Xholds.tw1907292659461396481 : True := trivial
theorem Xholds.tw1936566461818336976 : True := trivial
theorem Xholds.tw1964474185758857164 : True := trivial
theorem Xholds.tw201073201198932062 : True := trivial
theorem Xholds.tw2065186526540567802 : True := trivial
theorem Xholds.tw2072623762506032132 : True := trivial
theorem Xholds.tw2127001033614835272 : True := trivial
theorem Xholds.tw2169128423258588722 : True := trivial
theorem Xholds.tw2210704374150649388 : True := trivial
theorem Xholds.tw2213449686412169596 : True := trivial
theorem Xholds.tw2223543537229653868 : True := trivial
theorem Xholds.tw225907959104210324 : True := trivial
theorem Xholds.tw2268843860963250075 : True := trivial
theorem Xholds.tw2300875737903080947 : True := trivial
theorem Xholds.tw2359281396824941872 : True := trivial
theorem Xholds.tw2433762542204237883 : True := trivial
theorem Xholds.tw2452081821320124365 : True := trivial
theorem Xholds.tw2456716111573360855 : True := trivial
theorem Xholds.tw249925046382102897 : True := trivial
theorem Xholds.tw2562720634551784134 : True := trivial
theorem Xholds.tw2675004636589420432 : True := trivial
theorem Xholds.tw2697107870341561482 : True := trivial
theorem Xholds.tw2708798238418121381 : True := trivial
theorem Xholds.tw2726851289871673443 : True := trivial
theorem Xholds.tw2728510579781881601 : True := trivial
theorem Xholds.tw2762321172984100099 : True := trivial
theorem Xholds.tw2762368897169090541 : True := trivial
theorem Xholds.tw2826705169968319601 : True := trivial
theorem Xholds.tw2883787756989445112 : True := trivial
theorem Xholds.tw2952514070946850115 : True := trivial
theorem Xholds.tw2981876266727359901 : True := trivial
theorem Xholds.tw3031633691622263427 : True := trivial
theorem Xholds.tw3094229037644947342 : True := trivial
theorem Xholds.tw3166624390624693522 : True := trivial
theorem Xholds.tw3223190993238318515 : True := trivial
theorem Xholds.tw3327341276058264133 : True := trivial
theorem Xholds.tw3339039064696854637 : True := trivial
theorem Xholds.tw3344876902586661443 : True := trivial
theorem Xholds.tw3356886377496847110 : True := trivial
theorem Xholds.tw3387605709599726493 : True := trivial
theorem Xholds.tw3407865004455263408 : True := trivial
theorem Xholds.tw3445186652579306825 : True := trivial
theorem Xholds.tw3483396379573640025 : True := trivial
theorem Xholds.tw3572838681978865333 : True := trivial
theorem Xholds.tw364988107633310250 : True := trivial
theorem Xholds.tw3757296588691193800 : True := trivial
theorem Xholds.tw3780720338919212797 : True := trivial
theorem Xholds.tw3813865566095977294 : True := trivial
theorem Xholds.tw3826851091525912810 : True := trivial
theorem Xholds.tw3886752701860944203 : True := trivial
theorem Xholds.tw3953447995821045976 : True := trivial
theorem Xholds.tw3985117108294566038 : True := trivial
theorem Xholds.tw3987856742654870725 : True := trivial
theorem Xholds.tw3989162615682213552 : True := trivial
theorem Xholds.tw4015346458902655931 : True := trivial
theorem Xholds.tw4040735000380552459 : True := trivial
theorem Xholds.tw4080828225959355976 : True := trivial
theorem Xholds.tw413431026428817036 : True := trivial
theorem Xholds.tw4143512811983113939 : True := trivial
theorem Xholds.tw4148848567136513004 : True := trivial
theorem Xholds.tw4235731194361607590 : True := trivial
theorem Xholds.tw4248436020808658111 : True := trivial
theorem Xholds.tw4285381932462096546 : True := trivial
theorem Xholds.tw4297968974152259026 : True := trivial
theorem Xholds.tw4333661142990733470 : True := trivial
theorem Xholds.tw4344304597889651713 : True := trivial
theorem Xholds.tw4558263322629804407 : True := trivial
theorem Xholds.tw4574337620582347897 : True := trivial
theorem Xholds.tw4579803941620546030 : True := trivial
theorem Xholds.tw4600531985463766519 : True := trivial
theorem Xholds.tw4633320789332646780 : True := trivial
theorem Xholds.tw4662619315264616110 : True := trivial
theorem Xholds.tw4685712978442235438 : True := trivial
theorem Xholds.tw4734748449983701019 : True := trivial
theorem Xholds.tw4789442254238907429 : True := trivial
theorem Xholds.tw4795881108221988558 : True := trivial
theorem Xholds.tw4856117948071259268 : True := trivial
theorem Xholds.tw487616763867511892 : True := trivial
theorem Xholds.tw4876911226801932582 : True := trivial
theorem Xholds.tw4958857700311827805 : True := trivial
theorem Xholds.tw4969753303218570825 : True := trivial
theorem Xholds.tw4993294419613306100 : True := trivial
theorem Xholds.tw5056522669954143400 : True := trivial
theorem Xholds.tw5117957935311321507 : True := trivial
theorem Xholds.tw5123422784426167969 : True := trivial
theorem Xholds.tw5130263871457185768 : True := trivial
theorem Xholds.tw5134109919619998935 : True := trivial
theorem Xholds.tw5181139128870878894 : True := trivial
theorem Xholds.tw5187981876911702265 : True := trivial
theorem Xholds.tw5271100339629789001 : True := trivial
theorem Xholds.tw5289786591952742970 : True := trivial
theorem Xholds.tw5336896938978828577 : True := trivial
theorem Xholds.tw5339210163984128504 : True := trivial
theorem Xholds.tw5350604358520673213 : True := trivial
theorem Xholds.tw5418510616498291871 : True := trivial
theorem Xholds.tw5487372233239962354 : True := trivial
theorem Xholds.tw551377354870952331 : True := trivial
theorem Xholds.tw5545379189188058919 : True := trivial
theorem Xholds.tw5565010879481234943 : True := trivial
theorem Xholds.tw5566982752834326813 : True := trivial
theorem Xholds.tw5624796431370376151 : True := trivial
theorem Xholds.tw5627868312367102404 : True := trivial
theorem Xholds.tw5674275191183385933 : True := trivial
theorem Xholds.tw5677029949166154611 : True := trivial
theorem Xholds.tw569422699442510444 : True := trivial
theorem Xholds.tw570973811948088773 : True := trivial
theorem Xholds.tw5769525502224081638 : True := trivial
theorem Xholds.tw5770464493819789251 : True := trivial
theorem Xholds.tw5826691014673966857 : True := trivial
theorem Xholds.tw5928238128916191526 : True := trivial
theorem Xholds.tw5975190400432871375 : True := trivial
theorem Xholds.tw5992434184429597317 : True := trivial
theorem Xholds.tw6002596789157559799 : True := trivial
theorem Xholds.tw6151000261449431947 : True := trivial
theorem Xholds.tw6229773891840326251 : True := trivial
theorem Xholds.tw6233606476975470476 : True := trivial
theorem Xholds.tw6286234406123253556 : True := trivial
theorem Xholds.tw6288395720753521334 : True := trivial
theorem Xholds.tw6390581495670581290 : True := trivial
theorem Xholds.tw6461884358858574727 : True := trivial
theorem Xholds.tw6513361314047591371 : True := trivial
theorem Xholds.tw6562239240370374314 : True := trivial
theorem Xholds.tw6609165366387899584 : True := trivial
theorem Xholds.tw6722232746459724385 : True := trivial
theorem Xholds.tw6756134314034974415 : True := trivial
theorem Xholds.tw6774147634237312882 : True := trivial
theorem Xholds.tw6780665750503425603 : True := trivial
theorem Xholds.tw6862831388141951186 : True := trivial
theorem Xholds.tw6932556658099862812 : True := trivial
theorem Xholds.tw6935227096114473043 : True := trivial
theorem Xholds.tw695959086777696741 : True := trivial
theorem Xholds.tw6966614172183607460 : True := trivial
theorem Xholds.tw6978608845039883985 : True := trivial
theorem Xholds.tw6994194976944766782 : True := trivial
theorem Xholds.tw7010715768933443612 : True := trivial
theorem Xholds.tw7014604065692764484 : True := trivial
theorem Xholds.tw7020808467947769409 : True := trivial
theorem Xholds.tw7083697027655457077 : True := trivial
theorem Xholds.tw7089416939262087981 : True := trivial
theorem Xholds.tw7102743076665090703 : True := trivial
theorem Xholds.tw7179260335392202329 : True := trivial
theorem Xholds.tw7192123353991664044 : True := trivial
theorem Xholds.tw7224449126491174657 : True := trivial
theorem Xholds.tw7239098493464041094 : True := trivial
theorem Xholds.tw7268047470312703804 : True := trivial
theorem Xholds.tw7300417850797917124 : True := trivial
theorem Xholds.tw7301647840953808990 : True := trivial
theorem Xholds.tw7315641199033652567 : True := trivial
theorem Xholds.tw7324858850499970617 : True := trivial
theorem Xholds.tw7364707997651984597 : True := trivial
theorem Xholds.tw7368975867097327054 : True := trivial
theorem Xholds.tw7470418639107898561 : True := trivial
theorem Xholds.tw7488411505482491478 : True := trivial
theorem Xholds.tw7531634855484305910 : True := trivial
theorem Xholds.tw754218140080148332 : True := trivial
theorem Xholds.tw7599478290943703631 : True := trivial
theorem Xholds.tw7619641123459777739 : True := trivial
theorem Xholds.tw766612898170243175 : True := trivial
theorem Xholds.tw7700092437657921847 : True := trivial
theorem Xholds.tw7712025208749502012 : True := trivial
theorem Xholds.tw7724054767497366184 : True := trivial
theorem Xholds.tw7746353633942754935 : True := trivial
theorem Xholds.tw7769704099514553071 : True := trivial
theorem Xholds.tw7837999884029133460 : True := trivial
theorem Xholds.tw7899317463754807703 : True := trivial
theorem Xholds.tw7909668518304163821 : True := trivial
theorem Xholds.tw7995208303221749151 : True := trivial
theorem Xholds.tw8038144511068442073 : True := trivial
theorem Xholds.tw8064522792804200379 : True := trivial
theorem Xholds.tw8154378602575625441 : True := trivial
theorem Xholds.tw8201826791643334745 : True := trivial
theorem Xholds.tw8215477042977305911 : True := trivial
theorem Xholds.tw8223562900532074217 : True := trivial
theorem Xholds.tw8224508822720350488 : True := trivial
theorem Xholds.tw82330295265420706 : True := trivial
theorem Xholds.tw8336471408854470308 : True := trivial
theorem Xholds.tw8340217152346749123 : True := trivial
theorem Xholds.tw8354062279389071428 : True := trivial
theorem Xholds.tw8395132392792338638 : True := trivial
theorem Xholds.tw8444887189571641493 : True := trivial
theorem Xholds.tw8584455408439070165 : True := trivial
theorem Xholds.tw8691941452926785953 : True := trivial
theorem Xholds.tw8693391484842684875 : True := trivial
theorem Xholds.tw8760295196761010826 : True := trivial
theorem Xholds.tw8857405516182935156 : True := trivial
theorem Xholds.tw8904165007725771343 : True := trivial
theorem Xholds.tw894238967690256054 : True := trivial
theorem Xholds.tw8953306701654744003 : True := trivial
theorem Xholds.tw8962649982847888512 : True := trivial
theorem Xholds.tw913314571259796709 : True := trivial
theorem Xholds.tw927163723495896956 : True := trivial
theorem Xholds.tw9286948666716175676 : True := trivial
theorem Xholds.tw9291862281143486320 : True := trivial
theorem Xholds.tw932349203796849310 : True := trivial
theorem Xholds.tw9330332817856874950 : True := trivial
theorem Xholds.tw937970271633034708 : True := trivial
theorem Xholds.tw9392542651941999000 : True := trivial
theorem Xholds.tw941308147020739162 : True := trivial
theorem Xholds.tw9423052304636283112 : True := trivial
theorem Xholds.tw9563692502083964759 : True := trivial
theorem Xholds.tw9575058316259350434 : True := trivial
theorem Xholds.tw9598885156188679375 : True := trivial
theorem Xholds.tw9631187715060481826 : True := trivial
theorem Xholds.tw9662656144544071998 : True := trivial
theorem Xholds.tw9677879926026118182 : True := trivial
theorem Xholds.tw9691233590523729038 : True := trivial
theorem Xholds.tw9772107299324570916 : True := trivial
theorem Xholds.tw9810722716045522393 : True := trivial
theorem Xholds.tw9826093959987495721 : True := trivial
theorem Xholds.tw9875458963193083036 : True := trivial
theorem Xholds.tw9877833781252543886 : True := trivial
theorem Xholds.tw990832992848986395 : True := trivial
theorem Xholds.tw9921042679311813310 : True := trivial
theorem Xholds.tw9951320223175329952 : True := trivial
theorem Xholds.tw995302982612025588 : True := trivial
set_option Elab.async true in
theorem Xholds : PySem.Challenge.rw_qd0126_01.Holds := by
  w_on
  o_law
  o_head (kmHook wr.heap_1 [2,3,15,17,18,20,21,22,29,30,32,33,35,36,37,39,40,42,43,44,45,46,47,50,57,58,59,69,71,72,74,75,76,78,79,81,82,83,85,86,88,89,90,92,93,95,96,97,99,100,102,103,104,106,107,109,110,111,113,114,116,117,118,120,121,123,124,125,127,128,130,131,132,134,135,137,138,139,141,142,144,145,146,148,149,151,152,153,154,155,156,157,160,162,163,165,166,174,176,177,179,180,181,182,183,184,185,195,196,198,199,201,202,203,204,205,206,207,217,219,220,222,223,224,225,226,227,228,238,240,241,243,244,245,247,248,250,251,252,253,254,255,256,259,261,262,264,265,266,268,269,271,272,273,276,277,285,286,288,289,291,292,293,295,296,298,299,300,302,303,305,306,307,308,309,310,311,314,321,323,324,326,327,328,330,331,333,334,335,337,338,340,341,342,344,345,347,348,349,351,352,354,355,356,359,360,361,362,363,366,368,369,371,372,373,375,376,378,379,380,382,383,385,386,387,390,391,392,394,395,397,398,399,401,402,404,405,406,408,409,411,412,413,414,416,417,419,420,421,424,425,426,428,429,431,432,433,436,437,438,441,442,443,445,446,448,449,450,453,454,455,457,458,460,461,462,465,466,467,469,470,472,473,474,476,477,479,480] (fun _ => by kernel_rfl) [475])
  (case hw => w_witness2)
  k_go0
  rename_i h₁ tk₁ w2 w1 w0 d2 d1 d0 X0 X T B F N l0
  rename IntsAre _ _ => hI
  have n2 := N _ (.head _)
  have n1 := N _ (.tail _ (.head _))
  have n0 := N _ (.tail _ (.tail _ (.head _)))
  have nT := N _ (.tail _ (.tail _ (.tail _ (.head _))))
  have S : St _ _ _ (cellsFrom (_ + 1) [("plan", .cell), ("shelf", .cell), ("states", .cell)] []) [("script", .ref _)] [("plan", none), ("shelf", none), ("states", none)] [(475, tabObj #[])] h₁ :=
    ⟨⟨_, _, F, stays_refl, ⟨X, _, _, _, _, topRead_of T⟩, fun x v e => SubF.look (l := [("script", .ref _)]) ⟨rfl, trivial⟩ e⟩, F.keep, Heap.get?_none_of_le F.above, (fun p hp => by rw [List.mem_singleton.mp hp]; exact nT), ce3 ⟨_, _, rfl, n0.1, d0, n0.2⟩ ⟨_, _, rfl, n1.1, d1, n1.2⟩ ⟨_, _, rfl, n2.1, d2, n2.2⟩, by simp⟩
  have hgens := ‹_ = (#[] : Array GenState)›
  have hBuA := bu_top T nT.2.2
  have hNs := T.g
  have hlen := hI.length
  rename World => w
  rename Shared => s1
  rename List Value => sv
  rename List Int => ns
  replace hlen : ns.length ≤ 63 := by (first | exact omq376 _ _ (by assumption) hlen | omega)
  clear n2 n1 n0 nT N F X X0 d2 d1 d0 T
  refine wpAny_mono (Q := fun f s' => ∃ h' tk ps, f = .ret (.bool true) ∧ s' = { heap := h', gens := s1.gens, drawn := s1.drawn, toks := tk, os := s1.os } ∧ (ghostOf s1.heap [(479, 475)]).StaysIn h' ∧ h'.get? 475 = some (tabObj ps)) (E := fun _ _ => False) ?main ?fin (fun _ _ x => x.elim)
  case fin =>
    rintro f s' ⟨h', tk, ps, rfl, rfl, k, e⟩
    exact ⟨⟨.inl ⟨.bool true, .bool true, [], rfl, fun cls => rfl, .bool true, post_t ns, fun _ => ⟨.nil, fun _ ha => nomatch ha⟩⟩, k, rfl, hgens⟩, ⟨⟨ps, e⟩, trivial⟩⟩
  case main =>
    clear hgens
    have hsc0 := lifted
    have B0 := B
    have cH := codeHd
    clear lifted B codeHd
    generalize ghostOf s1.heap [(479, 475)] = G at *
    generalize s1.heap.objs.size = L at *
    have R : ∀ env, Rm (callerA.deeper env) 100 600 := fun env => ⟨rfl, by show callerA.depth + 1 + 100 < 990; decide, by show callerA.units + 3 + 600 < 9800; decide⟩
    have hU : ∀ env, (callerA.deeper env).in1.units < cLine ∧ (callerA.deeper env).in1.in1.units < cLine := fun env => by
      have h := (R env).hu
      have := cLine_is
      exact ⟨by show (callerA.deeper env).units + 1 < cLine; (first | exact omq377 _ _ h this | omega), by show (callerA.deeper env).units + 1 + 1 < cLine; (first | exact omq378 _ _ h this | omega)⟩
    have ncT : ∀ ps : Array Value, ∀ p ∈ [((475 : Addr), tabObj ps)], ∀ u, p.2.data ≠ .cell u := fun ps p hp => by rw [List.mem_singleton.mp hp]; exact noField_cell
    have hnd : ((cellsFrom (L + 1) [("plan", NameKind.cell), ("shelf", .cell), ("states", .cell)] []).map (·.2)).Nodup := by
      show [L + 3, L + 2, L + 1].Nodup
      simp
    repeat (walk_at "st")
    rename St _ _ _ _ _ _ _ _ => S
    refine law_source S.wdh ((R _).le (by decide) (by decide)) ((by obtain ⟨o, a, b⟩ := hsc0; exact ⟨o, S.out _ _ a, b⟩)) hI hlen fun h' tk src ca o cv cns kc rest k nsrc nca ne hsrc hSO hca hics z0 z1 hr => ?_
    have S1 := S.fresh nsrc k hsrc
    obtain ⟨hA, S2, kA, eqA⟩ := S1.cool
    have hcaA : hA.get? ca = some (lstO cv kc) := by
      rw [eqA]
      refine hideAll_get _ hca fun hm => ?_
      have hm' : ca = src ∨ ca ∈ loose L (cellsFrom (L + 1) [("plan", NameKind.cell), ("shelf", .cell), ("states", .cell)] []) [("plan", none), ("shelf", none), ("states", none)] [(475, tabObj #[])] := by
        unfold loose at hm ⊢
        rw [List.map_cons] at hm
        rcases List.mem_append.mp hm with hm | hm
        · exact .inr (List.mem_append_left _ hm)
        · rcases List.mem_cons.mp hm with hm | hm
          · exact .inl hm
          · exact .inr (List.mem_append_right _ hm)
      rcases hm' with q | q
      · exact ne q.symm
      · obtain ⟨o', e'⟩ := S.loose_in q
        rw [nca] at e'; cases e'
    have hSA : SrcA hA 0 o := ⟨ca, cv, cns, kc, rest, 0, hcaA, hics, z0, z1, hr, Nat.le_refl _, hSO⟩
    clear eqA hcaA hca hsrc nca nsrc ne k hics hSO S1 S z0 z1 hr
    repeat (walk_at "st")
    rename St _ _ _ _ _ _ _ _ => S
    have nsrc := (S.nw _ (.head _)).2.2
    have kH : hA.StaysIn (hideAll _ [src]) := fun b x e => hideAll_get _ (S.out _ _ e) fun hm => by
      rw [List.mem_singleton.mp hm, nsrc] at e; cases e
    refine law_plan (S.new (.head _)) (hSA.keep kH) (S.wd.keeps kH) ((R _).le (by decide) (by decide)) fun h' tk' o' h0 t P sd vs kp rs ring fs st m hkk hsrc' hk0 hk0' h0src ht hP hpl g0 g1 g2 hmap losd hfs => ?_
    obtain ⟨hB, S3, kB, kN⟩ := S.adoptBut hSA.noCell hkk hk0' hk0 h0src
    replace ht := kN _ _ ht
    replace hP := kN _ _ hP
    replace hpl := hpl.keep kN
    replace hmap := mapKeep hmap kN
    have gp : GoodPlan rs ring := ⟨g0, g1, g2⟩
    have kGB := stays_trans kA kB
    clear kN hkk hsrc' hk0 hk0' h0src S kH nsrc hSA kB
    repeat (walk_at "st")
    refine rUnpT S3 rfl (isT (S3.base ht)) rfl rfl fun h8 k8 S => ?_
    clear S3 k8 ht
    repeat (walk_at "st")
    refine sC S rfl (hap_of hnd _) (ncT _) fun h9 S => ?_
    replace S := S.prune (lc' := [("plan", some (.ref P)), ("shelf", none), ("states", none)]) ⟨rfl, rfl, rfl, trivial⟩
    rename_i S0; clear S0
    repeat (walk_at "st")
    refine sC S rfl (hap_of hnd _) (ncT _) fun h10 S => ?_
    replace S := S.prune (lc' := [("plan", some (.ref P)), ("shelf", none), ("states", some (.ref sd))]) ⟨rfl, rfl, rfl, trivial⟩
    rename_i S0; clear S0
    repeat (first | (fail_if_success (with_reducible show wpAny _ _ (eval (Expr.BoolOp _ _ _) _) _ _ _)); walk_at "st")
    obtain ⟨deep, hdeep⟩ : ∃ deep : Bool, (deep = true ↔ 20 < (chainOf rs ring).H 0) := ⟨decide (20 < (chainOf rs ring).H 0), by simp⟩
    have hdi := deep_iff gp
    have hvl : vs.length = rs.length := hpl.length
    rename Heap => hh
    refine wpAny_mono (Q := fun v s' => v = .bool deep ∧ ∃ tk, s' = { heap := hh, gens := s1.gens, drawn := s1.drawn, toks := tk, os := s1.os }) (E := fun _ _ => False) ?_ ?_ (fun _ _ x => x)
    · repeat (walk_at "st")
      cases hr : ring with
      | true =>
        rw [if_pos rfl]
        rw [hr] at hdeep hdi
        exact ⟨by rw [hdeep.mpr (hdi.mpr (.inl rfl))], _, rfl⟩
      | false =>
        rw [if_neg (by decide)]
        rw [hr] at hdeep hdi
        repeat (walk_at "st")
        rename St _ _ _ _ _ _ _ _ => S
        refine rLenL (S.base hP) (by (first | exact omq293 _ _ g0 g1 hvl | omega)) ?_
        repeat (walk_at "st")
        refine ⟨?_, _, rfl⟩
        congr 1
        rw [Bool.eq_iff_iff, decide_eq_true_iff, hdeep, hdi, hvl]
        simp
        (first | exact omq379 _ _ g0 g1 hvl | omega)
    rintro v s' ⟨rfl, tk8, rfl⟩
    repeat (walk_at "st")
    rename St _ _ _ _ _ _ _ _ => S
    refine law_shelf (ord := false) S.wdh ((R _).le (by decide) (by decide)) (S.base hP) (hpl.keep S.out) g0 g1 (fun j r hr => let x := g2 j r hr; ⟨x.1, x.2.1, x.2.2.2.1⟩) fun h' tk' sh k hsh => ?_
    obtain ⟨hC, S4, kC, kN⟩ := S.adopt k
    replace hsh := hsh.keep kN
    replace hP := kC _ _ hP
    replace hpl := hpl.keep kC
    replace hmap := mapKeep hmap kC
    replace kGC := stays_trans kGB kC
    clear S kN kC k kGB
    repeat (walk_at "st")
    refine sC S4 rfl (hap_of hnd _) (ncT _) fun h9 S => ?_
    replace S := S.prune (lc' := [("plan", some (.ref P)), ("shelf", some (.ref sh)), ("states", some (.ref sd))]) ⟨rfl, rfl, rfl, trivial⟩
    rename_i S0; clear S0 S4
    repeat (first | (fail_if_success (with_reducible show wpAny _ _ (eval (Expr.IfExp _ _ _ _) _) _ _ _)); walk_at "st")
    replace S := S.names (l' := [("is_deep", .bool deep)]) ⟨rfl, trivial⟩
    have hring : deep = false → ring = false := fun q => by
      cases hr : ring with
      | false => rfl
      | true => have := hdeep.mpr (hdi.mpr (.inl hr)); rw [q] at this; cases this
    have hshort : deep = false → rs.length ≤ 20 := fun q => by
      rcases Nat.lt_or_ge 20 rs.length with z | z
      · have := hdeep.mpr (hdi.mpr (.inr z)); rw [q] at this; cases this
      · exact z
    refine wpAny_mono (Q := fun v s' => ∃ hh tk hD, s' = { heap := hh, gens := s1.gens, drawn := s1.drawn, toks := tk, os := s1.os } ∧ hC.StaysIn hD ∧ St w hD L (cellsFrom (L + 1) [("plan", NameKind.cell), ("shelf", .cell), ("states", .cell)] []) [("is_deep", .bool deep)] [("plan", some (.ref P)), ("shelf", some (.ref sh)), ("states", some (.ref sd))] [(475, tabObj #[])] hh ∧ (deep = true → v = .none) ∧ (deep = false → ∃ D k, v = .ref D ∧ hD.get? D = some (lstO [.bool (truthOf st rs)] k))) (E := fun _ _ => False) ?_ ?_ (fun _ _ x => x)
    · repeat (walk_at "st")
      cases hd : deep with
      | true =>
        rw [if_pos rfl]
        repeat (walk_at "st")
        exact ⟨_, _, hC, rfl, stays_refl, hd ▸ S, fun _ => rfl, fun q => nomatch q⟩
      | false =>
        rw [if_neg (by decide)]
        rw [hd] at S
        repeat (walk_at "st")
        rename St _ _ _ _ _ _ _ _ => S
        refine law_truth (st := st) S.wdh ((R _).le (by decide) (by decide)) (S.base hP) (hpl.keep S.out) g0 g1 (fun j r hr => let x := g2 j r hr; ⟨x.1, x.2.1, x.2.2.2.1, x.2.2.1, fun q => (x.2.2.2.2.2 q).2.2 (hring hd)⟩) (mapKeep hmap S.out) losd hfs fun h' tk' k => ?_
        have S5 := S.keeps k
        clear S
        repeat (walk_at "st")
        rename St _ _ _ _ _ _ _ _ => S
        obtain ⟨hD, S6, kD, gD⟩ := S.rest (fun v q => nomatch q)
        exact ⟨_, _, hD, rfl, kD, S6, (fun q => nomatch q), fun _ => ⟨_, _, rfl, gD⟩⟩
    rintro v s' ⟨hh, tk9, hD, rfl, kD, SD, hv1, hv2⟩
    clear S
    replace hsh := hsh.keep kD
    replace hP := kD _ _ hP
    replace hpl := hpl.keep kD
    replace hmap := mapKeep hmap kD
    have kGD := stays_trans kGC kD
    clear kGC kD
    repeat (first | (fail_if_success (with_reducible show wpAny _ _ (PySem.isTrue _ _ _) _ _ _)); walk_at "st")
    rename Heap => hx
    replace SD : St w hD L (cellsFrom (L + 1) [("plan", NameKind.cell), ("shelf", .cell), ("states", .cell)] []) [("due", v), ("is_deep", .bool deep)] [("plan", some (.ref P)), ("shelf", some (.ref sh)), ("states", some (.ref sd))] [(475, tabObj #[])] hx := by assumption
    refine wpAny_mono (Q := fun b s' => b = false ∧ ∃ hh tk hF c', s' = { heap := hh, gens := s1.gens, drawn := s1.drawn, toks := tk, os := s1.os } ∧ hD.StaysIn hF ∧ St w hF L (cellsFrom (L + 1) [("plan", NameKind.cell), ("shelf", .cell), ("states", .cell)] []) [("is_deep", .bool deep)] [("plan", some (.ref P)), ("shelf", some (.ref sh)), ("states", some (.ref sd))] [(475, tabObj (#[] ++ #[rawInt 316, rawInt 18, .ref c']))] hh) (E := fun _ _ => False) ?_ ?_ (fun _ _ x => x)
    · repeat (walk_at "st")
      refine rLam (pre := []) (post := []) (clos := [("states", L + 3), ("shelf", L + 2)]) SD (hNs.keeps kGD) (Heap.BuiltinsAt.keeps hBuA kGD) (cH.keeps kGD) rfl rfl rfl trivial rfl rfl fun h' hE tk f c' pm ctv kE S hf hrec => ?_
      clear SD
      repeat (walk_at "st")
      replace S : St w hE L (cellsFrom (L + 1) [("plan", NameKind.cell), ("shelf", .cell), ("states", .cell)] []) [("due", v), ("is_deep", .bool deep)] [("plan", some (.ref P)), ("shelf", some (.ref sh)), ("states", some (.ref sd))] [(475, tabObj (#[] ++ #[rawInt 316, rawInt 18, .ref c']))] h' := S
      obtain ⟨base, S0, kB, eqB⟩ := (S.drop (List.nil_sublist _)).cool
      obtain ⟨hs1, hn1⟩ := S.cellAt (x := "shelf") (c := L + 2) rfl rfl
      obtain ⟨hs2, hn2⟩ := S.cellAt (x := "states") (c := L + 3) rfl rfl
      have hok : (!deep) = true ↔ (chainOf rs ring).H 0 ≤ 20 := by
        rw [Bool.not_eq_true', ← Bool.not_eq_true, hdeep]; (first | exact omq380 _ | omega)
      refine wpAny_mono (Q := fun u s' => ∃ hh tk hF, s' = { heap := hh, gens := s1.gens, drawn := s1.drawn, toks := tk, os := s1.os } ∧ hE.StaysIn hF ∧ St w hF L (cellsFrom (L + 1) [("plan", NameKind.cell), ("shelf", .cell), ("states", .cell)] []) [("due", v), ("is_deep", .bool deep)] [("plan", some (.ref P)), ("shelf", some (.ref sh)), ("states", some (.ref sd))] [(475, tabObj (#[] ++ #[rawInt 316, rawInt 18, .ref c']))] hh ∧ (deep = true → u = .none) ∧ (deep = false → ∃ D k, u = .ref D ∧ hF.get? D = some (lstO [.bool (truthOf st rs)] k))) (E := fun _ _ => False) ?_ ?_ (fun _ _ x => x)
      · refine heard (ok := !deep) (P := fun _ u => u = .bool (truthOf st rs)) (base := base) (outer := [_]) S.wdh S0.wd ((R _).le (by decide) (by decide)) (S0.belowBase B0 rfl rfl) ⟨_, _, _, _, S.base hf⟩ (deed1 gp (st := st) hok S.wd S.out hf hrec hs1 hs2 hn1 hn2 (hsh.keep kE) (mapKeep hmap kE) losd hfs) ?_ ?_
        · intro q h1 tk1 h2 D u k1 k2 hP1 hD1 hD2
          replace hP1 : u = .bool (truthOf st rs) := hP1
          rw [hP1] at hD2
          have S5 := S.fresh hD1 (stays_trans k1 k2) hD2
          obtain ⟨hF, S6, kF, gF⟩ := S5.rest (fun v q => nomatch q)
          exact ⟨_, _, hF, rfl, kF, S6, fun z => (by rw [z] at q; cases q), fun _ => ⟨D, _, rfl, gF⟩⟩
        · intro q h1 tk1 kb U
          exact ⟨_, _, hE, rfl, stays_refl, S.landed (ncT _) (eqB ▸ kb) U, fun _ => rfl, fun z => (by rw [z] at q; cases q)⟩
      rintro u s' ⟨hh, tk2, hF, rfl, kF, SF, hu1, hu2⟩
      clear S S0 kB eqB hs1 hs2 hn1 hn2 hf hrec
      repeat (walk_at "st")
      have SF' := SF.names (l' := [("is_deep", .bool deep)]) ⟨rfl, trivial⟩
      cases hd : deep with
      | true =>
        rw [hu1 hd, hv1 hd]
        refine cmp_ofNotEq (PySem.SeqAt.RcNeAt.none_none _ _ _ _ ?_)
        repeat (walk_at "st")
        rw [hd] at SF'
        exact ⟨rfl, _, _, hF, c', rfl, stays_trans kE kF, SF'⟩
      | false =>
        obtain ⟨D, kk, eD, hDa⟩ := hu2 hd
        obtain ⟨D2, kk2, eD2, hDb⟩ := hv2 hd
        rw [eD, eD2]
        refine cmp_ofNotEq ?_
        refine PySem.SeqAt.RcNeAt.lists (e := fun _ => true) (isL (SF.base hDa)) (isL (SF.base (kF _ _ (kE _ _ hDb)))) rfl ((R _).le (d' := 0) (u' := 0) (by decide) (by decide)).units (fun j h1 h2 => ?_) _ _ _ _ ?_
        · match j, h1, h2 with
          | 0, _, _ => exact PySem.SeqAt.EqAt.same _
          | j + 1, h1, _ => exact absurd h1 (by simp)
        · repeat (walk_at "st")
          rw [hd] at SF'
          exact ⟨by simp, _, _, hF, c', rfl, stays_trans kE kF, SF'⟩
    rintro b s' ⟨rfl, hh, tk9, hE, c', rfl, kE, SE⟩
    clear SD hv1 hv2 hsh hmap hfs
    replace hP := kE _ _ hP
    replace hpl := hpl.keep kE
    have kGE := stays_trans kGD kE
    clear kGD kE
    obtain ⟨sz, hsz1, hsz2⟩ : ∃ sz : Nat, (deep = true → sz = 0) ∧ (deep = false → sz = countOf rs) := by
      cases deep with
      | true => exact ⟨0, fun _ => rfl, fun q => nomatch q⟩
      | false => exact ⟨_, (fun q => nomatch q), fun _ => rfl⟩
    repeat (first | (fail_if_success (with_reducible show wpAny _ _ (eval (Expr.IfExp _ _ _ _) _) _ _ _)); walk_at "st")
    refine wpAny_mono (Q := fun v s' => ∃ hh tk t, s' = { heap := hh, gens := s1.gens, drawn := s1.drawn, toks := tk, os := s1.os } ∧ v = .int (sz : Int) t ∧ St w hE L (cellsFrom (L + 1) [("plan", NameKind.cell), ("shelf", .cell), ("states", .cell)] []) [("is_deep", .bool deep)] [("plan", some (.ref P)), ("shelf", some (.ref sh)), ("states", some (.ref sd))] [(475, tabObj (#[] ++ #[rawInt 316, rawInt 18, .ref c']))] hh) (E := fun _ _ => False) ?_ ?_ (fun _ _ x => x)
    · repeat (walk_at "st")
      cases hd : deep with
      | true =>
        rw [if_pos rfl]
        repeat (walk_at "st")
        rw [hd] at SE
        exact ⟨_, _, _, rfl, (by rw [hsz1 hd]; rfl), SE⟩
      | false =>
        rw [if_neg (by decide)]
        rw [hd] at SE
        repeat (walk_at "st")
        refine law_count SE.wdh ((R _).le (by decide) (by decide)) (SE.base hP) (hpl.keep SE.out) (by (first | exact omq381 _ _ g0 g1 hvl | omega)) (fun r hr => ?_) fun h' tk' t k => ?_
        · obtain ⟨j, hj⟩ := List.mem_iff_getElem?.mp hr
          have x := g2 j r hj
          exact ⟨by have := x.2.1; (first | exact omq382 _ this | omega), x.2.2.2.1⟩
        · exact ⟨_, _, _, rfl, (by rw [hsz2 hd]), SE.keeps k⟩
    rintro v s' ⟨hh, tk9, t9, rfl, rfl, SG⟩
    clear SE
    repeat (first | (fail_if_success (with_reducible show wpAny _ _ (PySem.isTrue _ _ _) _ _ _)); walk_at "st")
    rename Heap => hx
    refine wpAny_mono (Q := fun b s' => (b = true ↔ 150 < sz ∧ sz ≤ 10000) ∧ ∃ tk, s' = { heap := hx, gens := s1.gens, drawn := s1.drawn, toks := tk, os := s1.os }) (E := fun _ _ => False) ?_ ?_ (fun _ _ x => x)
    · refine isTrue_chain ?_
      repeat (walk_at "st")
      refine test_link ?_
      repeat (walk_at "st")
      split
      · rename_i hq
        refine test_last ?_
        repeat (walk_at "st")
        refine ⟨?_, _, rfl⟩
        rw [decide_eq_true_iff] at hq ⊢
        (first | exact omq383 _ hq | omega)
      · rename_i hq
        refine ⟨?_, _, rfl⟩
        rw [decide_eq_true_iff] at hq
        simp
        (first | exact omq384 _ hq | omega)
    rintro b s' ⟨hb, tk9, rfl⟩
    cases hbv : b with
    | true =>
      repeat (walk_at "st")
      rename St _ _ _ _ _ _ _ _ => S
      exact ⟨_, _, _, rfl, rfl, stays_trans kGE S.out, S.new (.head _)⟩
    | false =>
      rename St _ _ _ _ _ _ _ _ => S
      repeat (first | (fail_if_success (with_reducible show wpAny _ _ (eval (Expr.IfExp _ _ _ _) _) _ _ _)); walk_at "st")
      replace S : St w hE L (cellsFrom (L + 1) [("plan", NameKind.cell), ("shelf", .cell), ("states", .cell)] []) [("size", .int (sz : Int) t9), ("is_deep", .bool deep)] [("plan", some (.ref P)), ("shelf", some (.ref sh)), ("states", some (.ref sd))] [(475, tabObj #[rawInt 316, rawInt 18, .ref c'])] hx := by
        have q : (#[] : Array Value) ++ #[rawInt 316, rawInt 18, .ref c'] = #[rawInt 316, rawInt 18, .ref c'] := by simp
        rw [q] at S
        exact S
      clear SG hb hsz1
      obtain ⟨ok2, hok2⟩ : ∃ ok2 : Bool, (ok2 = true ↔ ((chainOf rs ring).H 0 ≤ 20 ∧ countOf rs ≤ 10000)) := ⟨decide ((chainOf rs ring).H 0 ≤ 20 ∧ countOf rs ≤ 10000), by simp⟩
      refine wpAny_mono (Q := fun v s' => ∃ hh tk hH, s' = { heap := hh, gens := s1.gens, drawn := s1.drawn, toks := tk, os := s1.os } ∧ hE.StaysIn hH ∧ St w hH L (cellsFrom (L + 1) [("plan", NameKind.cell), ("shelf", .cell), ("states", .cell)] []) [] [("plan", some (.ref P)), ("shelf", some (.ref sh)), ("states", some (.ref sd))] [(475, tabObj #[rawInt 316, rawInt 18, .ref c'])] hh ∧ (ok2 = false → v = .none) ∧ (ok2 = true → ∃ DD D us k kk, v = .ref DD ∧ hH.get? DD = some (lstO [.ref D] kk) ∧ hH.get? D = some (lstO us k) ∧ RowsAre hH us (lrows rs 0 0))) (E := fun _ _ => False) ?_ ?_ (fun _ _ x => x)
      · cases hd : deep with
        | true =>
          rw [hd] at S
          have h20 := hdeep.mp hd
          repeat (walk_at "st")
          exact ⟨_, _, hE, rfl, stays_refl, S.names (l' := []) trivial, fun _ => rfl, fun q => (by have := (hok2.mp q).1; (first | exact (omq369 _ h20 this).elim | omega))⟩
        | false =>
          rw [hd] at S
          have hsz := hsz2 hd
          have h20 : (chainOf rs ring).H 0 ≤ 20 := by
            rcases Nat.lt_or_ge 20 ((chainOf rs ring).H 0) with q | q
            · have := hdeep.mpr q; rw [hd] at this; cases this
            · exact q
          have hsh20 := hshort hd
          repeat (walk_at "st")
          split
          · rename_i hq
            rw [decide_eq_true_iff] at hq
            repeat (walk_at "st")
            exact ⟨_, _, hE, rfl, stays_refl, S.names (l' := []) trivial, fun _ => rfl, fun q => (by have := (hok2.mp q).2; (first | exact (omq385 _ _ hsz hq this).elim | omega))⟩
          · rename_i hq
            rw [decide_eq_true_iff] at hq
            repeat (walk_at "st")
            refine law_rows (rs := rs) g1 (fun j r hr => let x := g2 j r hr; ⟨x.1, x.2.1, x.2.2.2.1, fun q => (x.2.2.2.2.2 q).2.2 (hring hd)⟩) rs.length 0 0 _ _ _ _ _ _ (by (first | exact omq386 _ | omega)) g0 (by rw [List.drop_zero]; (first | exact omq387 _ _ hsz hq | omega)) S.wdh ((R _).le (by (first | exact omq388 _ _ g0 g1 hvl hsh20 | omega)) (by (first | exact omq389 _ _ g0 g1 hvl hsh20 | omega))) (S.base hP) (hpl.keep S.out) fun h' tk' D us k kk nD hDD hRA => ?_
            rw [List.drop_zero] at hRA
            have S4 := (S.names (l' := []) trivial).keeps kk
            obtain ⟨hI, S5, kI, eqI⟩ := S4.cool
            have gD : hI.get? D = some (lstO us k) := by rw [eqI]; exact S4.frzAt hDD (fun _ _ q => nomatch q) (fun _ q => nomatch q) (fun _ q => nomatch q)
            have gR : RowsAre hI us (lrows rs 0 0) := by rw [eqI]; exact rows_froz S4 hRA
            clear S S4 eqI hRA hDD
            repeat (walk_at "st")
            rename St _ _ _ _ _ _ _ _ => S
            obtain ⟨hH, S6, kH, gDD⟩ := S.rest (fun v q => nomatch q)
            exact ⟨_, _, hH, rfl, stays_trans kI kH, S6, (fun q => by have := hok2.mpr ⟨h20, by (first | exact omq387 _ _ hsz hq | omega)⟩; rw [q] at this; cases this), fun _ => ⟨_, D, us, k, _, rfl, gDD, kH _ _ gD, gR.keep kH⟩⟩
      rintro v s' ⟨hh, tk9, hH, rfl, kH, SH, hv1, hv2⟩
      clear S
      replace hP := kH _ _ hP
      replace hpl := hpl.keep kH
      have kGH := stays_trans kGE kH
      clear kGE kH
      repeat (first | (fail_if_success (with_reducible show wpAny _ _ (eval (Expr.Lambda _ _ _ _) _) _ _ _)); walk_at "st")
      rename Heap => hx
      replace SH : St w hH L (cellsFrom (L + 1) [("plan", NameKind.cell), ("shelf", .cell), ("states", .cell)] []) [("due", v)] [("plan", some (.ref P)), ("shelf", some (.ref sh)), ("states", some (.ref sd))] [(475, tabObj #[rawInt 316, rawInt 18, .ref c'])] hx := by assumption
      refine rLam (pre := []) (post := []) (clos := [("plan", L + 1)]) SH (hNs.keeps kGH) (Heap.BuiltinsAt.keeps hBuA kGH) (cH.keeps kGH) rfl rfl rfl trivial rfl rfl fun h' hJ tk f c2 pm ctv kJ S hf hrec => ?_
      clear SH
      replace S : St w hJ L (cellsFrom (L + 1) [("plan", NameKind.cell), ("shelf", .cell), ("states", .cell)] []) [("due", v)] [("plan", some (.ref P)), ("shelf", some (.ref sh)), ("states", some (.ref sd))] [(475, tabObj (#[rawInt 316, rawInt 18, .ref c'] ++ #[rawInt 322, rawInt 22, .ref c2]))] h' := S
      repeat (walk_at "st")
      obtain ⟨base, S0, kB, eqB⟩ := (S.drop (List.nil_sublist _)).cool
      obtain ⟨hs1, hn1⟩ := S.cellAt (x := "plan") (c := L + 1) rfl rfl
      have kGJ := stays_trans kGH kJ
      refine wpAny_mono (Q := fun u s' => ∃ hh tk, s' = { heap := hh, gens := s1.gens, drawn := s1.drawn, toks := tk, os := s1.os } ∧ St w hJ L (cellsFrom (L + 1) [("plan", NameKind.cell), ("shelf", .cell), ("states", .cell)] []) [("due", v)] [("plan", some (.ref P)), ("shelf", some (.ref sh)), ("states", some (.ref sd))] [(475, tabObj (#[rawInt 316, rawInt 18, .ref c'] ++ #[rawInt 322, rawInt 22, .ref c2]))] hh ∧ (ok2 = false → u = .none) ∧ (ok2 = true → ∃ DD D us k kk, u = .ref DD ∧ hh.get? DD = some (lstO [.ref D] kk) ∧ hh.get? D = some (lstO us k) ∧ RowsAre hh us (lrows rs 0 0))) (E := fun _ _ => False) ?_ ?_ (fun _ _ x => x)
      · refine heard (ok := ok2) (P := fun h2 u => ∃ D us k, u = .ref D ∧ h2.get? D = some (lstO us k) ∧ RowsAre h2 us (lrows rs 0 0)) (base := base) (outer := [_]) S.wdh S0.wd ((R _).le (by decide) (by decide)) (S0.belowBase B0 rfl rfl) ⟨_, _, _, _, S.base hf⟩ (deed2 gp hok2 S.wd S.out hf hrec hs1 hn1 (kJ _ _ hP) (hpl.keep kJ)) ?_ ?_
        · intro q h1 tk1 h2 DD u k1 k2 hP1 hD1 hD2
          obtain ⟨D, us, k, eu, gD, gR⟩ := hP1
          rw [eu] at hD2
          have S5 := S.keeps (stays_trans k1 k2)
          exact ⟨_, _, rfl, S5, fun z => (by rw [z] at q; cases q), fun _ => ⟨DD, D, us, k, _, rfl, hD2, k2 _ _ gD, gR.keep k2⟩⟩
        · intro q h1 tk1 kb U
          exact ⟨_, _, rfl, S.landed (ncT _) (eqB ▸ kb) U, fun _ => rfl, fun z => (by rw [z] at q; cases q)⟩
      rintro u s' ⟨hh, tk2, rfl, SF, hu1, hu2⟩
      clear S S0 kB eqB hs1 hn1 hf hrec
      repeat (walk_at "st")
      cases hd : ok2 with
      | false =>
        rw [hu1 hd, hv1 hd]
        refine cmp_ofEq (PySem.SeqAt.RcAt.none_none _ _ _ _ ?_)
        exact ⟨_, _, _, rfl, rfl, stays_trans kGJ SF.out, SF.new (.head _)⟩
      | true =>
        obtain ⟨DD, D, us, k, kk, eD, a1, a2, a3⟩ := hu2 hd
        obtain ⟨DD2, D2, us2, k2, kk2, eD2, b1, b2, b3⟩ := hv2 hd
        rw [eD, eD2]
        have kS : hH.StaysIn hh := stays_trans kJ SF.out
        refine PySem.SeqAt.eq_listAt (e := fun _ => true) (isL a1) (isL (kS _ _ b1)) rfl ((R _).le (d' := 0) (u' := 0) (by decide) (by decide)).units (fun j h1 h2 => ?_) ?_
        · match j, h1, h2 with
          | 0, _, _ => exact rows_eq (hU _).1 (hU _).2 a2 (kS _ _ b2) a3 (b3.keep kS)
          | j + 1, h1, _ => exact absurd h1 (by simp)
        · exact ⟨_, _, _, (by simp), rfl, stays_trans kGJ SF.out, SF.new (.head _)⟩
end
end Mine

theorem PySem.Challenge.cw_qd0126_01_holds : PySem.Challenge.rw_qd0126_01.Holds := by
  exact Mine.Xholds
