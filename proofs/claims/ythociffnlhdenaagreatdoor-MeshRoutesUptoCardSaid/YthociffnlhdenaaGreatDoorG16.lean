import Derived.Test.YthociffnlhdenaaGreatDoorG14
import Derived.Test.YthociffnlhdenaaGreatDoorG10
set_option linter.unusedSectionVars false
set_option linter.unusedVariables false
set_option linter.unusedSimpArgs false
set_option maxRecDepth 10000
set_option maxHeartbeats 4000000
namespace Vc
open Go Go.Proofs
theorem nodeD_bad {m : Ms} {i : Int} (h : ¬ m.chk = 0) : nodeD m i = m.chk := by
 show firstOf [m.chk, m.nodeE i] = m.chk
 rw [firstOf, show (m.chk != 0) = true by rw [bne_iff_ne]; exact h]; rfl
theorem nodeD_good {m : Ms} {i : Int} (h : m.chk = 0) : nodeD m i = m.nodeE i := by
 show firstOf [m.chk, m.nodeE i] = m.nodeE i
 rw [h]
 show firstOf [m.nodeE i] = m.nodeE i
 rw [firstOf]
 cases hq : (m.nodeE i != 0)
 ·have : m.nodeE i = 0 := by simpa using hq
  rw [this]; rfl
 ·rfl
end Vc
