import Derived.Test.YtifgdpnmgeffbaaGreatDoorG29
import Derived.Test.YtifgdpnmgeffbaaGreatDoorG30
set_option linter.unusedSectionVars false
set_option linter.unusedVariables false
set_option linter.unusedSimpArgs false
set_option maxRecDepth 100000
namespace Vc
open Go Go.Proofs
def memA3:List AVal:=[.d (.agg [.slice 2 [.agg [.str [109,49],.str [103,114,105,100]]],.slice 6 [.agg [.str [103,114,105,100],.str [115,104,111,112],.str [114,101,97,100],.str [109,49],.int .i64 10,.int .i64 20],.agg [.str [115,104,111,112],.str [100,101,115,107],.str [114,101,97,100],.str [109,49],.int .i64 15,.int .i64 30],.agg [.str [103,114,105,100],.str [100,101,115,107],.str [114,101,97,100],.str [109,49],.int .i64 18,.int .i64 25]]]),.d (.str [100,101,115,107]),.d (.str [114,101,97,100]),.d (.str [109,49])]
def memR3:List Data:=[.slice 2 [.agg [.int .i64 15,.int .i64 25]],.int .i64 0]
theorem mem3:CallDet Tryz.prog 30 memA3 memR3 :=
 callDR_good row09_good (chkT_spec (chkT_room (m:=20) tab09_chk)) lib09_good (fuel:=100000) ((callFR_eq _ _ _ _ _ _ _).symm.trans (show callFR Tryz.prog row09 (getT (roomT 20 tab09)) lib09 100000 30 memA3=some memR3 by kernel_rfl))
end Vc
