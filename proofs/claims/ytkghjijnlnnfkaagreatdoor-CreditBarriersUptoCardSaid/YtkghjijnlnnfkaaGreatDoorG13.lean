import Derived.Test.YtkghjijnlnnfkaaGreatDoorG12
set_option linter.unusedSectionVars false
set_option linter.unusedVariables false
set_option linter.unusedSimpArgs false
set_option maxRecDepth 10000
set_option maxHeartbeats 4000000
namespace Vc
open Go Go.Proofs
theorem resC {x y:Int} (h:y=x):resV [.int .i64 x]=resV [.int .i64 y]:=by rw [h]
theorem resB {x y:Bool} (h:x=y):resV [.bool x]=resV [.bool y]:=by rw [h]
end Vc
