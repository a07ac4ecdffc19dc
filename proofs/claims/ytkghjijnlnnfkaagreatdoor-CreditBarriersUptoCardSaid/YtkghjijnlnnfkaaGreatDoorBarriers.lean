/- The statement CreditBarriers of chapter 08 (its card, up to a size): it answers true for every switch, list of hours, tick and freshness, without a panic. No conditions but those of the card. -/
import Derived.Test.YtkghjijnlnnfkaaGreatDoorG27
import Derived.Test.YtkghjijnlnnfkaaGreatDoorG28
set_option linter.unusedSectionVars false
set_option linter.unusedVariables false
set_option linter.unusedSimpArgs false
namespace Go.Proofs.YtkghjijnlnnfkaaGreatDoor
open Go.ChangeShapes Go.WideShapes Go.ChangeAt Go.RowKit Vc
theorem lawAll7 (xs:List Vc.Data) (hf:FitAs at7 xs) (hw:wgts xs≤1048576):CallDet Tryz.prog 7 (xs.map .d) [.bool true]:=by
 simp only [at7,FitAs] at hf
 obtain ⟨d0,r0,rfl,h0,d1,r1,rfl,h1,d2,r2,rfl,h2,rfl⟩:=hf
 have h0':∃ ds,d0=.agg ds∧Fits' [.bool,.bool,.sl true [.str,.int .i64]] ds:=h0
 obtain ⟨ds0,rfl,p0⟩:=h0'
 obtain ⟨s,rfl⟩:=sw_fit p0
 have h1':Fits' [.sl true [.bool,.bool,.bool,.bool,.bool,.bool,.bool,.int .i64,.int .i64]] [d1]:=h1
 obtain ⟨l,t1,e1,p1⟩:=hrl_fit h1'
 cases e1
 have h2':∃ ds,d2=.agg ds∧Fits' [.int .i64,.int .i64] ds:=h2
 obtain ⟨ds2,rfl,p2⟩:=h2'
 obtain ⟨t,t2,rfl,_,p3⟩:=i64_fit p2
 obtain ⟨f,t3,rfl,_,p4⟩:=i64_fit p3
 obtain rfl:=fits_nil p4
 have e3:=wgts_ods s.os
 have e4:=wgts_hrs l
 have hw2:wgts (ods s.os)≤1048576∧wgts (hrs l)≤1048576:=by
  have h:=hw
  simp only [wgts,wgt] at h
  omega
 exact c7 s l t f (by omega) (by omega)
theorem creditBarriersUpto:Rows.CreditBarriersUptoCardSaid:=card7 lawAll7
end Go.Proofs.YtkghjijnlnnfkaaGreatDoor
