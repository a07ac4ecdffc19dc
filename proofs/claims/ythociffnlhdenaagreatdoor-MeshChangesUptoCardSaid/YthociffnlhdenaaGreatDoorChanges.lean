/- The statement MeshChanges of chapter 05 (its card, up to a size): it answers true for every mesh, every state and every change, without a panic. No conditions but those of the card. -/
import Derived.Test.YthociffnlhdenaaGreatDoorG23
import Derived.Test.YthociffnlhdenaaGreatDoorG17
import Derived.Test.YthociffnlhdenaaGreatDoorG19
set_option linter.unusedSectionVars false
set_option linter.unusedVariables false
set_option linter.unusedSimpArgs false
namespace Go.Proofs.YthociffnlhdenaaGreatDoor
open Go.ChangeShapes Go.WideShapes Go.ChangeAt Go.RowKit Vc
theorem law12 (xs:List Vc.Data) (hf:FitAs at12 xs) (hw:wgts xs≤1048576):CallDet Tryz.prog 12 (xs.map .d) [.bool true]:=by
 simp only [at12,FitAs] at hf
 obtain ⟨d0,r0,rfl,h0,d1,r1,rfl,h1,d2,r2,rfl,h2,rfl⟩:=hf
 have h0':∃ ds,d0=.agg ds∧Fits' [.sl false [.str],.sl true [.int .i64,.int .i64,.int .i64]] ds:=h0
 obtain ⟨ds0,rfl,k0⟩:=h0'
 obtain ⟨m,em⟩:=ms_fit k0
 rw [em] at hw ⊢
 have h1':∃ ds,d1=.agg ds∧Fits' [.int .i64,.int .i64,.sl true [.int .i64,.int .i64,.int .i64]] ds:=h1
 obtain ⟨ds1,rfl,k1⟩:=h1'
 obtain ⟨s,es⟩:=st_fit k1
 rw [es] at hw ⊢
 have h2':∃ ds,d2=.agg ds∧Fits' [.int .i64,.int .i64,.int .i64,.int .i64,.str,.int .i64,.int .i64] ds:=h2
 obtain ⟨ds2,rfl,k2⟩:=h2'
 obtain ⟨i,t1,rfl,_,k3⟩:=i64_fit k2
 obtain ⟨a,t2,rfl,_,k4⟩:=i64_fit k3
 obtain ⟨b,t3,rfl,_,k5⟩:=i64_fit k4
 obtain ⟨g,t4,rfl,_,k6⟩:=i64_fit k5
 obtain ⟨nm,t5,rfl,k7⟩:=str_fit k6
 obtain ⟨w,t6,rfl,_,k8⟩:=i64_fit k7
 obtain ⟨c,t7,rfl,_,k9⟩:=i64_fit k8
 obtain rfl:=fits_nil k9
 have hw2:wgt m.d+(wgt s.d+(wgt (.agg [.int .i64 i,.int .i64 a,.int .i64 b,.int .i64 g,.str nm,.int .i64 w,.int .i64 c])+0))≤1048576:=hw
 have hw3:wgt (.agg [.int .i64 i,.int .i64 a,.int .i64 b,.int .i64 g,.str nm,.int .i64 w,.int .i64 c])=1+(1+(1+(1+(wgt (.str nm)+(1+(1+0)))))):=rfl
 have e1:=wgt_ms m
 have e2:=wgt_st s
 exact c12 c16 m s i ⟨a,b,g⟩ nm w c (by omega) (by omega) (by omega)
theorem meshChangesUpto:Rows.MeshChangesUptoCardSaid:=card12 law12
end Go.Proofs.YthociffnlhdenaaGreatDoor
