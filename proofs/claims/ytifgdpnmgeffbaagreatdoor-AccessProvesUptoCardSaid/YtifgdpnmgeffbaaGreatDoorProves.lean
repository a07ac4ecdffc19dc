/- The statement AccessProves of chapter 09 (its card, up to a size): it answers true for every book, claim and grant, without a panic. No conditions but those of the card. -/
import Derived.Test.YtifgdpnmgeffbaaGreatDoorG37
import Derived.Test.YtifgdpnmgeffbaaGreatDoorG38
import Derived.Test.YtifgdpnmgeffbaaGreatDoorG47
set_option linter.unusedSectionVars false
set_option linter.unusedVariables false
set_option linter.unusedSimpArgs false
namespace Go.Proofs.YtifgdpnmgeffbaaGreatDoor
open Go.ChangeShapes Go.WideShapes Go.ChangeAt Go.RowKit Vc
theorem lawAll9 (xs:List Vc.Data) (hf:FitAs at9 xs) (hw:wgts xs≤1048576):CallDet Tryz.prog 9 (xs.map .d) [.bool true]:=by
 simp only [at9,FitAs] at hf
 obtain ⟨d0,r0,rfl,h0,d1,r1,rfl,h1,d2,r2,rfl,h2,rfl⟩:=hf
 have h0':∃ ds,d0=.agg ds∧Fits' [.sl true [.str,.str],.sl true [.str,.str,.str,.str,.int .i64,.int .i64]] ds:=h0
 obtain ⟨ds0,rfl,q0⟩:=h0'
 obtain ⟨l,t0,rfl,q1⟩:=obsl_fit q0
 obtain ⟨G,t1,rfl,q2⟩:=grsl_fit q1
 obtain rfl:=fits_nil q2
 have h1':∃ ds,d1=.agg ds∧Fits' [.str,.str,.str,.int .i64] ds:=h1
 obtain ⟨ds1,rfl,p0⟩:=h1'
 obtain ⟨a,t2,rfl,p1⟩:=str_fit p0
 obtain ⟨b,t3,rfl,p2⟩:=str_fit p1
 obtain ⟨c,t4,rfl,p3⟩:=str_fit p2
 obtain ⟨n,t5,rfl,_,p4⟩:=i64_fit p3
 obtain rfl:=fits_nil p4
 have h2':∃ ds,d2=.agg ds∧Fits' [.str,.str,.str,.str,.int .i64,.int .i64] ds:=h2
 obtain ⟨ds2,rfl,g0⟩:=h2'
 obtain ⟨ga,t6,rfl,g1⟩:=str_fit g0
 obtain ⟨gb,t7,rfl,g2⟩:=str_fit g1
 obtain ⟨gc,t8,rfl,g3⟩:=str_fit g2
 obtain ⟨gd,t9,rfl,g4⟩:=str_fit g3
 obtain ⟨gm,t10,rfl,_,g5⟩:=i64_fit g4
 obtain ⟨gn,t11,rfl,_,g6⟩:=i64_fit g5
 obtain rfl:=fits_nil g6
 have hw2:((wgts (obs l)+1)+((wgts (grs G)+1)+0))+(((a.length+1)+((b.length+1)+((c.length+1)+(1+0))))+(((ga.length+1)+((gb.length+1)+((gc.length+1)+((gd.length+1)+(1+(1+0))))))+0))≤1048576:=hw
 have e1:=wgts_obs l
 have e2:=wgts_grs G
 exact c9 l G a b c n ⟨ga,gb,gc,gd,gm,gn⟩ (by omega) (by omega)
theorem accessProvesUpto:Rows.AccessProvesUptoCardSaid:=card9 lawAll9
end Go.Proofs.YtifgdpnmgeffbaaGreatDoor
