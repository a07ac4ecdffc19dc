/- The statement CreditGuarded of chapter 08 (its card, up to a size): it answers true for every account, list of hours, tick, use and freshness, without a panic. No conditions but those of the card. -/
import Derived.Test.YtkghjijnlnnfkaaGreatDoorG27
import Derived.Test.YtkghjijnlnnfkaaGreatDoorG28
import Derived.Test.YtkghjijnlnnfkaaGreatDoorG30
set_option linter.unusedSectionVars false
set_option linter.unusedVariables false
set_option linter.unusedSimpArgs false
namespace Go.Proofs.YtkghjijnlnnfkaaGreatDoor
open Go.ChangeShapes Go.WideShapes Go.ChangeAt Go.RowKit Vc
theorem lawAll10 (xs:List Vc.Data) (hf:FitAs at10 xs) (hw:wgts xs≤1048576):CallDet Tryz.prog 10 (xs.map .d) [.bool true]:=by
 simp only [at10,FitAs] at hf
 obtain ⟨d0,r0,rfl,h0,d1,r1,rfl,h1,d2,r2,rfl,h2,rfl⟩:=hf
 have h0':∃ ds,d0=.agg ds∧Fits' [.int .i64,.int .i64,.int .i64,.int .i64,.int .u8,.int .u8,.int .u8,.int .u8,.int .u8,.int .u8,.int .u8,.int .u8,.int .u8,.int .u8,.int .u8,.int .u8,.int .u8,.int .u8,.int .u8,.int .u8,.bool,.sl false [.int .i64]] ds:=h0
 obtain ⟨ds0,rfl,p0⟩:=h0'
 obtain ⟨a,rfl⟩:=acc_fit p0
 have h1':Fits' [.sl true [.bool,.bool,.bool,.bool,.bool,.bool,.bool,.int .i64,.int .i64]] [d1]:=h1
 obtain ⟨l,t1,e1,p1⟩:=hrl_fit h1'
 cases e1
 have h2':∃ ds,d2=.agg ds∧Fits' [.int .u32,.int .u32,.int .u32] ds:=h2
 obtain ⟨ds2,rfl,p2⟩:=h2'
 obtain ⟨n0,t2,rfl,b0,p3⟩:=u32_fit p2
 obtain ⟨n1,t3,rfl,b1,p4⟩:=u32_fit p3
 obtain ⟨n2,t4,rfl,b2,p5⟩:=u32_fit p4
 obtain rfl:=fits_nil p5
 have e3:=wgts_ints a.u
 have e4:=wgts_hrs l
 have hw2:wgts (ints a.u)≤1048576∧wgts (hrs l)≤1048576:=by
  have h:=hw
  simp only [wgts,wgt] at h
  omega
 exact c10 a a.c l n0 n1 n2 (by omega) (by omega) b0 b1 b2
theorem creditGuardedUpto:Rows.CreditGuardedUptoCardSaid:=card10 lawAll10
end Go.Proofs.YtkghjijnlnnfkaaGreatDoor
