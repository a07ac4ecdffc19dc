import Derived.Test.YtkopkfcfgiijmaaGreatDoorG13
import Derived.Test.YtkopkfcfgiijmaaGreatDoorG14
set_option linter.unusedSectionVars false
set_option linter.unusedVariables false
set_option linter.unusedSimpArgs false
set_option maxRecDepth 10000
set_option maxHeartbeats 4000000
namespace Vc
open Go Go.Proofs
theorem passes_len (ls:List Lk):∀ (k:Nat) (d:List Int),(passes ls k d).length=d.length
 | 0,d=>rfl
 | k+1,d=>by
  show (pass ls (passes ls k d)).length=_
  rw [pass_len,passes_len ls k]
end Vc
