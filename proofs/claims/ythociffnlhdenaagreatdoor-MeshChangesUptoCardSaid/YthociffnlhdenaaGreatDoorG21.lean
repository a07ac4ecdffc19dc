import Derived.Test.YthociffnlhdenaaGreatDoorG20
import Derived.Test.YthociffnlhdenaaGreatDoorG17
set_option linter.unusedSectionVars false
set_option linter.unusedVariables false
set_option linter.unusedSimpArgs false
set_option maxRecDepth 100000
namespace Vc
open Go Go.Proofs
theorem c16:CallDet Tryz.prog 16 [] [.bool true] :=
 callD_good (chkT_spec (chkT_room (m:=20) tab05_chk)) lib05_good (fuel:=100000) ((callF_eq _ _ _ _ _ _).symm.trans (show callF Tryz.prog (getT (roomT 20 tab05)) lib05 100000 16 []=some [.bool true] by kernel_rfl))
end Vc
