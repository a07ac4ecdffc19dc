/- The statement AccessHides of chapter 09 (its card, up to a size): it answers true for every use, set and interval, without a panic. No conditions but those of the card. -/
import Derived.Test.YtifgdpnmgeffbaaGreatDoorG22
import Derived.Test.YtifgdpnmgeffbaaGreatDoorG23
set_option linter.unusedSectionVars false
set_option linter.unusedVariables false
set_option linter.unusedSimpArgs false
namespace Go.Proofs.YtifgdpnmgeffbaaGreatDoor
open Go.ChangeShapes Go.WideShapes Go.ChangeAt Go.RowKit Vc
theorem lawAll10 (xs:List Vc.Data) (hf:FitAs at10 xs) (hw:wgts xs≤1048576):CallDet Tryz.prog 10 (xs.map .d) [.bool true]:=by
 simp only [at10,FitAs] at hf
 obtain ⟨d0,r0,rfl,h0,d1,r1,rfl,h1,d2,r2,rfl,h2,rfl⟩:=hf
 have h0':Fits' [.sl false [.int .i64]] [d0]:=h0
 obtain ⟨u,t0,e0,_⟩:=intl_fit h0'
 obtain ⟨rfl,rfl⟩:=List.cons.inj e0
 have h1':Fits' [.sl false [.sl false [.int .i64]]] [d1]:=h1
 obtain ⟨l,t5,e5,_⟩:=issl_fit h1'
 obtain ⟨rfl,rfl⟩:=List.cons.inj e5
 have h2':∃ ds,d2=.agg ds∧Fits' [.int .i64,.int .i64,.sl true [.int .i64,.int .i64]] ds:=h2
 obtain ⟨ds2,rfl,q0⟩:=h2'
 obtain ⟨f1,t6,rfl,_,q1⟩:=i64_fit q0
 obtain ⟨f2,t7,rfl,_,q2⟩:=i64_fit q1
 obtain ⟨ms,t8,rfl,q3⟩:=ivsl_fit q2
 obtain rfl:=fits_nil q3
 have hw2:(wgts (ints u)+1)+((wgts (iss l)+1)+((1+(1+((wgts (ivs ms)+1)+0)))+0))≤1048576:=hw
 have e1:=wgts_iss l
 have e2:=wgts_ints u
 have e3:=wgts_ivs ms
 exact law10 u l (f1,f2) ms (by omega) (by omega) (fun o ho=>by have:=e1.2 o ho; omega) (by omega)
theorem accessHidesUpto:Rows.AccessHidesUptoCardSaid:=card10 lawAll10
end Go.Proofs.YtifgdpnmgeffbaaGreatDoor
