import Derived.Test.YtifgdpnmgeffbaaGreatDoorG29
import Derived.Test.YtifgdpnmgeffbaaGreatDoorG30
set_option linter.unusedSectionVars false
set_option linter.unusedVariables false
set_option linter.unusedSimpArgs false
set_option maxRecDepth 100000
namespace Vc
open Go Go.Proofs
def memA2:List AVal:=[.d (.int .i64 2),.d (.int .i64 7),.d (.slice 2 [.agg [.slice 1 [.int .i64 0,.int .i64 1],.int .i64 12]]),.d (.int .i64 2)]
def memR2:List Data:=[.bool true,.int .i64 0]
theorem mem2:CallDet Tryz.prog 50 memA2 memR2 :=
 callDR_good row09_good (chkT_spec (chkT_room (m:=20) tab09_chk)) lib09_good (fuel:=100000) ((callFR_eq _ _ _ _ _ _ _).symm.trans (show callFR Tryz.prog row09 (getT (roomT 20 tab09)) lib09 100000 50 memA2=some memR2 by kernel_rfl))
end Vc
