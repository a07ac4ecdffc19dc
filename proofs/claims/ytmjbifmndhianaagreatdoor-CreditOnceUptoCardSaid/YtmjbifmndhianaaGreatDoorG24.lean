import Derived.Test.YtmjbifmndhianaaGreatDoorG23
set_option linter.unusedSectionVars false
set_option linter.unusedVariables false
set_option linter.unusedSimpArgs false
set_option maxRecDepth 100000
namespace Vc
open Go Go.Proofs
def shA:List AVal:=[.d (.agg [.int .i64 1000,.int .i64 500,.int .i64 40,.int .i64 2000,.int .u8 1,.int .u8 2,.int .u8 3,.int .u8 4,.int .u8 5,.int .u8 6,.int .u8 7,.int .u8 8,.int .u8 0,.int .u8 0,.int .u8 0,.int .u8 0,.int .u8 0,.int .u8 0,.int .u8 0,.int .u8 0,.bool false,.slice 1 []])]
def shR:List Data:=[.str [97,99,99,111,117,110,116,32,49,48,48,48,32,53,48,48,32,52,48,32,50,48,48,48,10,107,101,121,32,49,32,50,32,51,32,52,32,53,32,54,32,55,32,56,10],.int .i64 0]
def lib08m (f:FuncId) (xs:List AVal):Option (List Data) :=
 match Nat.beq f 81&&eqVs shA xs with
 | true=>some shR
 | false=>lib08 f xs
theorem lib08m_good (f:FuncId) (xs:List AVal) (rs:List Data) (h:lib08m f xs=some rs):CallDet Tryz.prog f xs rs:=by
 unfold lib08m at h
 split at h
 ·rename_i hb
  simp only [Bool.and_eq_true] at hb
  have e1:=Nat.eq_of_beq_eq_true hb.1
  have e2:=eqVs_eq hb.2
  subst e1 e2
  cases h
  exact c81_sh
 ·exact lib08_good f xs rs h
theorem c15:CallDet Tryz.prog 15 [] [.bool true] :=
 callDR_good row08_good (chkT_spec (chkT_room (m:=20) tab08_chk)) lib08m_good (fuel:=100000) ((callFR_eq _ _ _ _ _ _ _).symm.trans (show callFR Tryz.prog row08 (getT (roomT 20 tab08)) lib08m 100000 15 []=some [.bool true] by kernel_rfl))
end Vc
