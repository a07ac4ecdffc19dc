import Derived.Test.YtmjbifmndhianaaGreatDoorG21
set_option linter.unusedSectionVars false
set_option linter.unusedVariables false
set_option linter.unusedSimpArgs false
set_option maxRecDepth 100000
namespace Vc
open Go Go.Proofs
theorem c25_sh:CallDet Tryz.prog 25 [.d (.agg [.int .i64 1000,.int .i64 500,.int .i64 40,.int .i64 2000,.int .u8 1,.int .u8 2,.int .u8 3,.int .u8 4,.int .u8 5,.int .u8 6,.int .u8 7,.int .u8 8,.int .u8 0,.int .u8 0,.int .u8 0,.int .u8 0,.int .u8 0,.int .u8 0,.int .u8 0,.int .u8 0,.bool false,.slice 1 []])] [.int .i64 0] :=
 callDR_good row08_good (chkT_spec (chkT_room (m:=20) tab08_chk)) lib08_good (fuel:=100000) ((callFR_eq _ _ _ _ _ _ _).symm.trans (show callFR Tryz.prog row08 (getT (roomT 20 tab08)) lib08 100000 25 [.d (.agg [.int .i64 1000,.int .i64 500,.int .i64 40,.int .i64 2000,.int .u8 1,.int .u8 2,.int .u8 3,.int .u8 4,.int .u8 5,.int .u8 6,.int .u8 7,.int .u8 8,.int .u8 0,.int .u8 0,.int .u8 0,.int .u8 0,.int .u8 0,.int .u8 0,.int .u8 0,.int .u8 0,.bool false,.slice 1 []])]=some [.int .i64 0] by kernel_rfl))
theorem c131_a:CallDet Tryz.prog 131 [.d (.str [97,99,99,111,117,110,116]),.d (.slice 1 [.int .i64 1000,.int .i64 500,.int .i64 40,.int .i64 2000])] [.str [97,99,99,111,117,110,116,32,49,48,48,48,32,53,48,48,32,52,48,32,50,48,48,48,10]] :=
 callDR_good row08_good (chkT_spec (chkT_room (m:=20) tab08_chk)) lib08_good (fuel:=100000) ((callFR_eq _ _ _ _ _ _ _).symm.trans (show callFR Tryz.prog row08 (getT (roomT 20 tab08)) lib08 100000 131 [.d (.str [97,99,99,111,117,110,116]),.d (.slice 1 [.int .i64 1000,.int .i64 500,.int .i64 40,.int .i64 2000])]=some [.str [97,99,99,111,117,110,116,32,49,48,48,48,32,53,48,48,32,52,48,32,50,48,48,48,10]] by kernel_rfl))
theorem c132_sh:CallDet Tryz.prog 132 [.d (.agg [.int .u8 1,.int .u8 2,.int .u8 3,.int .u8 4,.int .u8 5,.int .u8 6,.int .u8 7,.int .u8 8])] [.slice 1 [.int .i64 1,.int .i64 2,.int .i64 3,.int .i64 4,.int .i64 5,.int .i64 6,.int .i64 7,.int .i64 8]] :=
 callDR_good row08_good (chkT_spec (chkT_room (m:=20) tab08_chk)) lib08_good (fuel:=100000) ((callFR_eq _ _ _ _ _ _ _).symm.trans (show callFR Tryz.prog row08 (getT (roomT 20 tab08)) lib08 100000 132 [.d (.agg [.int .u8 1,.int .u8 2,.int .u8 3,.int .u8 4,.int .u8 5,.int .u8 6,.int .u8 7,.int .u8 8])]=some [.slice 1 [.int .i64 1,.int .i64 2,.int .i64 3,.int .i64 4,.int .i64 5,.int .i64 6,.int .i64 7,.int .i64 8]] by kernel_rfl))
theorem c131_b:CallDet Tryz.prog 131 [.d (.str [107,101,121]),.d (.slice 1 [.int .i64 1,.int .i64 2,.int .i64 3,.int .i64 4,.int .i64 5,.int .i64 6,.int .i64 7,.int .i64 8])] [.str [107,101,121,32,49,32,50,32,51,32,52,32,53,32,54,32,55,32,56,10]] :=
 callDR_good row08_good (chkT_spec (chkT_room (m:=20) tab08_chk)) lib08_good (fuel:=100000) ((callFR_eq _ _ _ _ _ _ _).symm.trans (show callFR Tryz.prog row08 (getT (roomT 20 tab08)) lib08 100000 131 [.d (.str [107,101,121]),.d (.slice 1 [.int .i64 1,.int .i64 2,.int .i64 3,.int .i64 4,.int .i64 5,.int .i64 6,.int .i64 7,.int .i64 8])]=some [.str [107,101,121,32,49,32,50,32,51,32,52,32,53,32,54,32,55,32,56,10]] by kernel_rfl))
end Vc
