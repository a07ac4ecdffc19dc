import Derived.Test.YtifgdpnmgeffbaaGreatDoorG29
import Derived.Test.YtifgdpnmgeffbaaGreatDoorG30
set_option linter.unusedSectionVars false
set_option linter.unusedVariables false
set_option linter.unusedSimpArgs false
set_option maxRecDepth 100000
namespace Vc
open Go Go.Proofs
def memA0:List AVal:=[.d (.int .i64 2),.d (.int .i64 7),.d (.slice 2 [.agg [.slice 1 [.int .i64 0,.int .i64 1],.int .i64 12]])]
def memR0:List Data:=[.slice 2 [.agg [.int .i64 5,.int .i64 7],.agg [.int .i64 5,.int .i64 7]],.int .i64 0]
theorem mem0:CallDet Tryz.prog 48 memA0 memR0 :=
 callDR_good row09_good (chkT_spec (chkT_room (m:=20) tab09_chk)) lib09_good (fuel:=100000) ((callFR_eq _ _ _ _ _ _ _).symm.trans (show callFR Tryz.prog row09 (getT (roomT 20 tab09)) lib09 100000 48 memA0=some memR0 by kernel_rfl))
end Vc
