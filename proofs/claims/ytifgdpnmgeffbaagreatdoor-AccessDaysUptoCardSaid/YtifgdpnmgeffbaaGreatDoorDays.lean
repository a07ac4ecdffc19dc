/- The statement AccessDays of chapter 09 (its card, up to a size): it answers true for every book and claim, without a panic. No conditions but those of the card. -/
import Derived.Test.YtifgdpnmgeffbaaGreatDoorG37
import Derived.Test.YtifgdpnmgeffbaaGreatDoorG38
import Derived.Test.YtifgdpnmgeffbaaGreatDoorG41
set_option linter.unusedSectionVars false
set_option linter.unusedVariables false
set_option linter.unusedSimpArgs false
namespace Go.Proofs.YtifgdpnmgeffbaaGreatDoor
open Go.ChangeShapes Go.WideShapes Go.ChangeAt Go.RowKit Vc
theorem lawAll4 (xs:List Vc.Data) (hf:FitAs at4 xs) (hw:wgts xs≤1048576):CallDet Tryz.prog 4 (xs.map .d) [.bool true]:=by
 simp only [at4,FitAs] at hf
 obtain ⟨d0,r0,rfl,h0,d1,r1,rfl,h1,rfl⟩:=hf
 have h0':∃ ds,d0=.agg ds∧Fits' [.sl true [.str,.str],.sl true [.str,.str,.str,.str,.int .i64,.int .i64]] ds:=h0
 obtain ⟨ds0,rfl,q0⟩:=h0'
 obtain ⟨l,t0,rfl,q1⟩:=obsl_fit q0
 obtain ⟨G,t1,rfl,q2⟩:=grsl_fit q1
 obtain rfl:=fits_nil q2
 have h1':∃ ds,d1=.agg ds∧Fits' [.str,.str,.str,.int .i64] ds:=h1
 obtain ⟨ds1,rfl,p0⟩:=h1'
 obtain ⟨a,t2,rfl,p1⟩:=str_fit p0
 obtain ⟨b,t3,rfl,p2⟩:=str_fit p1
 obtain ⟨c,t4,rfl,p3⟩:=str_fit p2
 obtain ⟨n,t5,rfl,_,p4⟩:=i64_fit p3
 obtain rfl:=fits_nil p4
 have hw2:((wgts (obs l)+1)+((wgts (grs G)+1)+0))+(((a.length+1)+((b.length+1)+((c.length+1)+(1+0))))+0)≤1048576:=hw
 have e1:=wgts_obs l
 have e2:=wgts_grs G
 exact c4 l G a b c n (by omega) (by omega)
theorem accessDaysUpto:Rows.AccessDaysUptoCardSaid:=card4 lawAll4
end Go.Proofs.YtifgdpnmgeffbaaGreatDoor
