/- The statement MeshLoops of chapter 05 (its card, up to a size): it answers true for every mesh, every coordinator and every story, without a panic. No conditions but those of the card. -/
import Derived.Test.YthociffnlhdenaaGreatDoorG23
import Derived.Test.YthociffnlhdenaaGreatDoorG19
set_option linter.unusedSectionVars false
set_option linter.unusedVariables false
set_option linter.unusedSimpArgs false
namespace Go.Proofs.YthociffnlhdenaaGreatDoor
open Go.ChangeShapes Go.WideShapes Go.ChangeAt Go.RowKit Vc
theorem law8 (xs:List Vc.Data) (hf:FitAs at8 xs) (hw:wgts xs≤1048576):CallDet Tryz.prog 8 (xs.map .d) [.bool true]:=by
 simp only [at8,FitAs] at hf
 obtain ⟨d0,r0,rfl,h0,d1,r1,rfl,h1,d2,r2,rfl,h2,rfl⟩:=hf
 have h0':∃ ds,d0=.agg ds∧Fits' [.sl false [.str],.sl true [.int .i64,.int .i64,.int .i64]] ds:=h0
 obtain ⟨ds0,rfl,k0⟩:=h0'
 obtain ⟨m,em⟩:=ms_fit k0
 rw [em] at hw ⊢
 have e1:=wgt_ms m
 have h1':Fits' [.int .u8] [d1]:=h1
 obtain ⟨st,t0,e0,hst,_⟩:=u8_fit h1'
 obtain ⟨rfl,rfl⟩:=List.cons.inj e0
 have h2':∃ ds,d2=.agg ds∧Fits' [.int .u8,.int .u8,.int .u8,.int .u8,.int .u8,.int .u8,.int .u8,.int .u8,.int .u8,.int .u8,.int .u8,.int .u8,.int .u8,.int .u8,.int .u8,.int .u8,.int .u8,.int .u8,.int .u8,.int .u8,.int .u8,.int .u8,.int .u8,.int .u8,.sl true [.int .u8,.int .u8]] ds:=h2
 obtain ⟨ds2,rfl,k0⟩:=h2'
 obtain ⟨q0,t0,rfl,b0,k1⟩:=u8_fit k0
 obtain ⟨q1,t1,rfl,b1,k2⟩:=u8_fit k1
 obtain ⟨q2,t2,rfl,b2,k3⟩:=u8_fit k2
 obtain ⟨q3,t3,rfl,b3,k4⟩:=u8_fit k3
 obtain ⟨q4,t4,rfl,b4,k5⟩:=u8_fit k4
 obtain ⟨q5,t5,rfl,b5,k6⟩:=u8_fit k5
 obtain ⟨q6,t6,rfl,b6,k7⟩:=u8_fit k6
 obtain ⟨q7,t7,rfl,b7,k8⟩:=u8_fit k7
 obtain ⟨q8,t8,rfl,b8,k9⟩:=u8_fit k8
 obtain ⟨q9,t9,rfl,b9,k10⟩:=u8_fit k9
 obtain ⟨q10,t10,rfl,b10,k11⟩:=u8_fit k10
 obtain ⟨q11,t11,rfl,b11,k12⟩:=u8_fit k11
 obtain ⟨q12,t12,rfl,b12,k13⟩:=u8_fit k12
 obtain ⟨q13,t13,rfl,b13,k14⟩:=u8_fit k13
 obtain ⟨q14,t14,rfl,b14,k15⟩:=u8_fit k14
 obtain ⟨q15,t15,rfl,b15,k16⟩:=u8_fit k15
 obtain ⟨q16,t16,rfl,b16,k17⟩:=u8_fit k16
 obtain ⟨q17,t17,rfl,b17,k18⟩:=u8_fit k17
 obtain ⟨q18,t18,rfl,b18,k19⟩:=u8_fit k18
 obtain ⟨q19,t19,rfl,b19,k20⟩:=u8_fit k19
 obtain ⟨q20,t20,rfl,b20,k21⟩:=u8_fit k20
 obtain ⟨q21,t21,rfl,b21,k22⟩:=u8_fit k21
 obtain ⟨q22,t22,rfl,b22,k23⟩:=u8_fit k22
 obtain ⟨q23,t23,rfl,b23,k24⟩:=u8_fit k23
 obtain ⟨lo,t24,rfl,hlo,k25⟩:=u8pl_fit k24
 obtain rfl:=fits_nil k25
 have hw2:wgt m.d+(1+(wgt (.agg [.int .u8 q0,.int .u8 q1,.int .u8 q2,.int .u8 q3,.int .u8 q4,.int .u8 q5,.int .u8 q6,.int .u8 q7,.int .u8 q8,.int .u8 q9,.int .u8 q10,.int .u8 q11,.int .u8 q12,.int .u8 q13,.int .u8 q14,.int .u8 q15,.int .u8 q16,.int .u8 q17,.int .u8 q18,.int .u8 q19,.int .u8 q20,.int .u8 q21,.int .u8 q22,.int .u8 q23,.slice 2 (u8ps lo)])+0))≤1048576:=hw
 have hw3:wgt (.agg [.int .u8 q0,.int .u8 q1,.int .u8 q2,.int .u8 q3,.int .u8 q4,.int .u8 q5,.int .u8 q6,.int .u8 q7,.int .u8 q8,.int .u8 q9,.int .u8 q10,.int .u8 q11,.int .u8 q12,.int .u8 q13,.int .u8 q14,.int .u8 q15,.int .u8 q16,.int .u8 q17,.int .u8 q18,.int .u8 q19,.int .u8 q20,.int .u8 q21,.int .u8 q22,.int .u8 q23,.slice 2 (u8ps lo)])=1+(1+(1+(1+(1+(1+(1+(1+(1+(1+(1+(1+(1+(1+(1+(1+(1+(1+(1+(1+(1+(1+(1+(1+((wgts (u8ps lo)+1)+0)))))))))))))))))))))))):=rfl
 have e3:=wgts_u8ps lo
 refine c8 c16 m st q0 q1 q2 q3 q4 q5 q6 q7 q8 q9 q10 q11 q12 q13 q14 q15 q16 q17 q18 q19 q20 q21 q22 q23 lo (by omega) (by omega) (by omega) hst (fun c hc=>?_) hlo
 simp only [List.mem_cons,List.not_mem_nil,or_false] at hc
 rcases hc with rfl | rfl | rfl | rfl | rfl | rfl | rfl | rfl | rfl | rfl | rfl | rfl | rfl | rfl | rfl | rfl | rfl | rfl | rfl | rfl | rfl | rfl | rfl | rfl
 ·exact b0
 ·exact b1
 ·exact b2
 ·exact b3
 ·exact b4
 ·exact b5
 ·exact b6
 ·exact b7
 ·exact b8
 ·exact b9
 ·exact b10
 ·exact b11
 ·exact b12
 ·exact b13
 ·exact b14
 ·exact b15
 ·exact b16
 ·exact b17
 ·exact b18
 ·exact b19
 ·exact b20
 ·exact b21
 ·exact b22
 ·exact b23
theorem meshLoopsUpto:Rows.MeshLoopsUptoCardSaid:=card8 law8
end Go.Proofs.YthociffnlhdenaaGreatDoor
