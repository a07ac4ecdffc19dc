import Derived.Test.YtfkljdokkfgifaaGreatDoorWb
import Derived.Test.YtfkljdokkfgifaaGreatDoorWa
set_option linter.unusedSectionVars false
set_option linter.unusedVariables false
set_option linter.unusedSimpArgs false
/- What chapter 04's awake returns, by the machine, in the kernel. -/
set_option maxRecDepth 100000
namespace Vc
open Go Go.Proofs
theorem c12 : CallDet Tryz.prog 12 [] [.bool true] :=
  callD_good (chkT_spec (chkT_room (m := 20) tab04_chk)) lib04_good (fuel := 100000) ((callF_eq _ _ _ _ _ _).symm.trans (show callF Tryz.prog (getT (roomT 20 tab04)) lib04 100000 12 [] = some [.bool true] by kernel_rfl))
end Vc

