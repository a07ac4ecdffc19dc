/- The statement MeshFlooded of chapter 05 (its card, up to a size): it answers true for every mesh, all four numbers and all pairs that are lost, without a panic. No conditions but those of the card. -/
import Derived.Test.YthociffnlhdenaaGreatDoorG23
import Derived.Test.YthociffnlhdenaaGreatDoorG19
set_option linter.unusedSectionVars false
set_option linter.unusedVariables false
set_option linter.unusedSimpArgs false
namespace Go.Proofs.YthociffnlhdenaaGreatDoor
open Go.ChangeShapes Go.WideShapes Go.ChangeAt Go.RowKit Vc
theorem law10 (xs:List Vc.Data) (hf:FitAs at10 xs) (hw:wgts xs≤1048576):CallDet Tryz.prog 10 (xs.map .d) [.bool true]:=by
 simp only [at10,FitAs] at hf
 obtain ⟨d0,r0,rfl,h0,d1,r1,rfl,h1,d2,r2,rfl,h2,rfl⟩:=hf
 have h0':∃ ds,d0=.agg ds∧Fits' [.sl false [.str],.sl true [.int .i64,.int .i64,.int .i64]] ds:=h0
 obtain ⟨ds0,rfl,k0⟩:=h0'
 obtain ⟨m,em⟩:=ms_fit k0
 rw [em] at hw ⊢
 have e1:=wgt_ms m
 have h1':∃ ds,d1=.agg ds∧Fits' [.int .u8,.int .u8,.int .u8,.int .u8] ds:=h1
 obtain ⟨ds1,rfl,k0⟩:=h1'
 obtain ⟨q0,t0,rfl,b0,k1⟩:=u8_fit k0
 obtain ⟨q1,t1,rfl,b1,k2⟩:=u8_fit k1
 obtain ⟨q2,t2,rfl,b2,k3⟩:=u8_fit k2
 obtain ⟨q3,t3,rfl,b3,k4⟩:=u8_fit k3
 obtain rfl:=fits_nil k4
 have h2':Fits' [.sl true [.int .u8,.int .u8]] [d2]:=h2
 obtain ⟨lo,t4,e0,hlp,_⟩:=u8pl_fit h2'
 obtain ⟨rfl,rfl⟩:=List.cons.inj e0
 have hw2:wgt m.d+(wgt (.agg [.int .u8 q0,.int .u8 q1,.int .u8 q2,.int .u8 q3])+((wgts (u8ps lo)+1)+0))≤1048576:=hw
 have e3:=wgts_u8ps lo
 exact c10 c16 m q0 q1 q2 q3 lo (by omega) (by omega) (by omega) b0 b1 b2 b3 hlp
theorem meshFloodedUpto:Rows.MeshFloodedUptoCardSaid:=card10 law10
end Go.Proofs.YthociffnlhdenaaGreatDoor
