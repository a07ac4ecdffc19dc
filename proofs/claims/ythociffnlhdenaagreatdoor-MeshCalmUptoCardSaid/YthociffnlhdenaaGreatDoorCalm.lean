/- The statement MeshCalm of chapter 05 (its card, up to a size): it answers true for every mesh, every state and every node, without a panic. No conditions but those of the card. -/
import Derived.Test.YthociffnlhdenaaGreatDoorG23
import Derived.Test.YthociffnlhdenaaGreatDoorG19
set_option linter.unusedSectionVars false
set_option linter.unusedVariables false
set_option linter.unusedSimpArgs false
namespace Go.Proofs.YthociffnlhdenaaGreatDoor
open Go.ChangeShapes Go.WideShapes Go.ChangeAt Go.RowKit Vc
theorem law11 (xs:List Vc.Data) (hf:FitAs at11 xs) (hw:wgts xs≤1048576):CallDet Tryz.prog 11 (xs.map .d) [.bool true]:=by
 simp only [at11,FitAs] at hf
 obtain ⟨d0,r0,rfl,h0,d1,r1,rfl,h1,d2,r2,rfl,h2,rfl⟩:=hf
 have h0':∃ ds,d0=.agg ds∧Fits' [.sl false [.str],.sl true [.int .i64,.int .i64,.int .i64]] ds:=h0
 obtain ⟨ds0,rfl,k0⟩:=h0'
 obtain ⟨m,em⟩:=ms_fit k0
 rw [em] at hw ⊢
 have e1:=wgt_ms m
 have h1':∃ ds,d1=.agg ds∧Fits' [.int .i64,.int .i64,.sl true [.int .i64,.int .i64,.int .i64]] ds:=h1
 obtain ⟨ds1,rfl,k1⟩:=h1'
 obtain ⟨s,es⟩:=st_fit k1
 rw [es] at hw ⊢
 have e2:=wgt_st s
 have h2':Fits' [.int .u8] [d2]:=h2
 obtain ⟨q,t0,e0,hq,_⟩:=u8_fit h2'
 obtain ⟨rfl,rfl⟩:=List.cons.inj e0
 have hw2:wgt m.d+(wgt s.d+(1+0))≤1048576:=hw
 exact c11 c16 m s q (by omega) (by omega) (by omega) hq
theorem meshCalmUpto:Rows.MeshCalmUptoCardSaid:=card11 law11
end Go.Proofs.YthociffnlhdenaaGreatDoor
