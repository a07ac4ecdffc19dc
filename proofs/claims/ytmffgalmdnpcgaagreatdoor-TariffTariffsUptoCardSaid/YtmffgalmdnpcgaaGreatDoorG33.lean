import Derived.Test.YtmffgalmdnpcgaaGreatDoorG32
set_option linter.unusedSectionVars false
set_option linter.unusedVariables false
set_option linter.unusedSimpArgs false
set_option maxRecDepth 100000
namespace Vc
open Go Go.Proofs
theorem c18:CallDet Tryz.prog 18 [] [.bool true] :=
 callDR_good row07_good (chkT_spec (chkT_room (m:=100) tab07_chk)) lib07_good (fuel:=100000) ((callFR_eq _ _ _ _ _ _ _).symm.trans (show callFR Tryz.prog row07 (getT (roomT 100 tab07)) lib07 100000 18 []=some [.bool true] by kernel_rfl))
end Vc
