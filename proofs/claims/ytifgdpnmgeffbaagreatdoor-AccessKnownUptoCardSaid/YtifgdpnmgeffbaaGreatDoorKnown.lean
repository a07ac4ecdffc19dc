/- The statement AccessKnown of chapter 09 (its card, up to a size): it answers true for every number, answer and interval, without a panic. No conditions but those of the card. -/
import Derived.Test.YtifgdpnmgeffbaaGreatDoorG22
import Derived.Test.YtifgdpnmgeffbaaGreatDoorG23
import Derived.Test.YtifgdpnmgeffbaaGreatDoorG24
set_option linter.unusedSectionVars false
set_option linter.unusedVariables false
set_option linter.unusedSimpArgs false
namespace Go.Proofs.YtifgdpnmgeffbaaGreatDoor
open Go.ChangeShapes Go.WideShapes Go.ChangeAt Go.RowKit Vc
theorem lawAll6 (xs:List Vc.Data) (hf:FitAs at6 xs) (hw:wgts xs≤1048576):CallDet Tryz.prog 6 (xs.map .d) [.bool true]:=by
 simp only [at6,FitAs] at hf
 obtain ⟨d0,r0,rfl,h0,d1,r1,rfl,h1,d2,r2,rfl,h2,rfl⟩:=hf
 have h0':∃ ds,d0=.agg ds∧Fits' [.int .i64,.int .i64,.int .i64,.int .i64] ds:=h0
 obtain ⟨ds0,rfl,k0⟩:=h0'
 obtain ⟨a1,t1,rfl,_,k1⟩:=i64_fit k0
 obtain ⟨a2,t2,rfl,_,k2⟩:=i64_fit k1
 obtain ⟨a3,t3,rfl,_,k3⟩:=i64_fit k2
 obtain ⟨a4,t4,rfl,_,k4⟩:=i64_fit k3
 obtain rfl:=fits_nil k4
 have h1':Fits' [.sl true [.sl false [.int .i64],.int .i64]] [d1]:=h1
 obtain ⟨l,t5,e5,_⟩:=ansl_fit h1'
 obtain ⟨rfl,rfl⟩:=List.cons.inj e5
 have h2':∃ ds,d2=.agg ds∧Fits' [.int .i64,.int .i64,.sl true [.int .i64,.int .i64]] ds:=h2
 obtain ⟨ds2,rfl,q0⟩:=h2'
 obtain ⟨f1,t6,rfl,_,q1⟩:=i64_fit q0
 obtain ⟨f2,t7,rfl,_,q2⟩:=i64_fit q1
 obtain ⟨ms,t8,rfl,q3⟩:=ivsl_fit q2
 obtain rfl:=fits_nil q3
 have hw2:(1+(1+(1+(1+0))))+((wgts (ans l)+1)+((1+(1+((wgts (ivs ms)+1)+0)))+0))≤1048576:=hw
 have e1:=wgts_ans l
 have e2:=wgts_ivs ms
 exact law6 a1 a2 a3 a4 l (f1,f2) ms (by omega) (fun o ho=>by have:=e1.2 o ho; omega) (by omega)
theorem accessKnownUpto:Rows.AccessKnownUptoCardSaid:=card6 lawAll6
end Go.Proofs.YtifgdpnmgeffbaaGreatDoor
