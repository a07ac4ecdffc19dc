/- The statement CreditAccounts of chapter 08 (its card, up to a size): it answers true for every account and amount, without a panic. No conditions but those of the card. -/
import Derived.Test.YtkghjijnlnnfkaaGreatDoorG21
import Derived.Test.YtkghjijnlnnfkaaGreatDoorG22
import Derived.Test.YtkghjijnlnnfkaaGreatDoorG23
set_option linter.unusedSectionVars false
set_option linter.unusedVariables false
set_option linter.unusedSimpArgs false
namespace Go.Proofs.YtkghjijnlnnfkaaGreatDoor
open Go.ChangeShapes Go.WideShapes Go.ChangeAt Go.RowKit Vc
theorem lawAll3 (xs:List Vc.Data) (hf:FitAs at3 xs) (hw:wgts xs≤1048576):CallDet Tryz.prog 3 (xs.map .d) [.bool true]:=by
 simp only [at3,FitAs] at hf
 obtain ⟨d0,r0,rfl,h0,d1,r1,rfl,h1,rfl⟩:=hf
 have h0':∃ ds,d0=.agg ds∧Fits' [.int .i64,.int .i64,.int .i64,.int .i64,.int .u8,.int .u8,.int .u8,.int .u8,.int .u8,.int .u8,.int .u8,.int .u8,.int .u8,.int .u8,.int .u8,.int .u8,.int .u8,.int .u8,.int .u8,.int .u8,.bool,.sl false [.int .i64]] ds:=h0
 obtain ⟨ds0,rfl,q0⟩:=h0'
 obtain ⟨a,rfl⟩:=acc_fit q0
 have h1':Fits' [.int .i64] [d1]:=h1
 obtain ⟨n,t,e,_,_⟩:=i64_fit h1'
 obtain ⟨rfl,rfl⟩:=List.cons.inj e
 have e3:=wgts_ints a.u
 have hw2:(1+(1+(1+(1+(1+(1+(1+(1+(1+(1+(1+(1+(1+(1+(1+(1+(1+(1+(1+(1+(1+((wgts (ints a.u)+1)+0))))))))))))))))))))))+(1+0)≤1048576:=hw
 exact c3 a a.c n (by omega)
theorem creditAccountsUpto:Rows.CreditAccountsUptoCardSaid:=card3 lawAll3
end Go.Proofs.YtkghjijnlnnfkaaGreatDoor
