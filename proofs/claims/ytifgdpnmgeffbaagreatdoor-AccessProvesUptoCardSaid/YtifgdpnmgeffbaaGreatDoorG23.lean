import Derived.Test.YtifgdpnmgeffbaaGreatDoorG22
set_option linter.unusedSectionVars false
set_option linter.unusedVariables false
set_option linter.unusedSimpArgs false
set_option maxRecDepth 10000
set_option maxHeartbeats 4000000
namespace Vc
open Go Go.Proofs
section
variable (ri ob : List UInt8) (day : Int)
end
structure HK (G:List Gr) (L:List Nm) (K:List Int):Prop where
 hc:cntR L G+L.length≤40
 hl:K.length=L.length
 hz:∀ z∈K,0≤z∧z < (K.length:Int)
end Vc
