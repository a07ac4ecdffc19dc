import Derived.Test.YtokkgdokamjnaaaGreatG23
import Derived.Test.YtokkgdokamjnaaaGreatG09
set_option linter.unusedSectionVars false
set_option linter.unusedVariables false
set_option linter.unusedSimpArgs false
set_option maxRecDepth 100000
namespace Vc
open Go Go.Proofs
theorem libo:∀ f xs rs,(fun (_:FuncId) (_:List AVal)=>(none:Option (List Data))) f xs=some rs→CallDet Tryz.prog f xs rs:=fun _ _ _ h=>by cases h
theorem k6:CallDet Tryz.prog 6 [] [.bool true] :=
 callD_good (chkT_spec (chkT_room (m:=20) tabo_chk)) libo (fuel:=100000) ((callF_eq _ _ _ _ _ _).symm.trans (show callF Tryz.prog (getT (roomT 20 tabo)) (fun _ _=>none) 100000 6 []=some [.bool true] by kernel_rfl))
end Vc
