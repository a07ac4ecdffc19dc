/- The statement CreditOrders of chapter 08 (its card, up to a size): it answers true for every switch, office and tick, without a panic. No conditions but those of the card. -/
import Derived.Test.YtkghjijnlnnfkaaGreatDoorG25
import Derived.Test.YtkghjijnlnnfkaaGreatDoorG26
import Derived.Test.YtkghjijnlnnfkaaGreatDoorG27
set_option linter.unusedSectionVars false
set_option linter.unusedVariables false
set_option linter.unusedSimpArgs false
namespace Go.Proofs.YtkghjijnlnnfkaaGreatDoor
open Go.ChangeShapes Go.WideShapes Go.ChangeAt Go.RowKit Vc
theorem lawAll11 (xs:List Vc.Data) (hf:FitAs at11 xs) (hw:wgts xs≤1048576):CallDet Tryz.prog 11 (xs.map .d) [.bool true]:=by
 simp only [at11,FitAs] at hf
 obtain ⟨d0,r0,rfl,h0,d1,r1,rfl,h1,d2,r2,rfl,h2,rfl⟩:=hf
 have h0':∃ ds,d0=.agg ds∧Fits' [.bool,.bool,.sl true [.str,.int .i64]] ds:=h0
 obtain ⟨ds0,rfl,p0⟩:=h0'
 obtain ⟨s,rfl⟩:=sw_fit p0
 obtain ⟨off,t1,e1,p1⟩:=str_fit h1
 cases e1
 obtain ⟨t,t2,e2,_,p2⟩:=i64_fit h2
 cases e2
 have e4:=wgts_ods s.os
 have hw2:wgts (ods s.os)≤1048576:=by
  have h:=hw
  simp only [wgts,wgt] at h
  omega
 exact c11 s off t (by omega)
theorem creditOrdersUpto:Rows.CreditOrdersUptoCardSaid:=card11 lawAll11
end Go.Proofs.YtkghjijnlnnfkaaGreatDoor
