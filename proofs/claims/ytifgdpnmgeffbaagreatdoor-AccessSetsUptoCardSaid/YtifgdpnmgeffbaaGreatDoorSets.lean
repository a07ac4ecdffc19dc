/- The statement AccessSets of chapter 09 (its card, up to a size): it answers true for every number, set of houses and use, without a panic. No conditions but those of the card. -/
import Derived.Test.YtifgdpnmgeffbaaGreatDoorG20
import Derived.Test.YtifgdpnmgeffbaaGreatDoorG21
import Derived.Test.YtifgdpnmgeffbaaGreatDoorG22
set_option linter.unusedSectionVars false
set_option linter.unusedVariables false
set_option linter.unusedSimpArgs false
namespace Go.Proofs.YtifgdpnmgeffbaaGreatDoor
open Go.ChangeShapes Go.WideShapes Go.ChangeAt Go.RowKit Vc
theorem lawAll5 (xs:List Vc.Data) (hf:FitAs at5 xs) (hw:wgts xs≤1048576):CallDet Tryz.prog 5 (xs.map .d) [.bool true]:=by
 simp only [at5,FitAs] at hf
 obtain ⟨d0,r0,rfl,h0,d1,r1,rfl,h1,d2,r2,rfl,h2,rfl⟩:=hf
 have h0':∃ ds,d0=.agg ds∧Fits' [.int .i64,.int .i64,.int .i64,.int .i64] ds:=h0
 obtain ⟨ds0,rfl,k0⟩:=h0'
 obtain ⟨a1,t1,rfl,_,k1⟩:=i64_fit k0
 obtain ⟨a2,t2,rfl,_,k2⟩:=i64_fit k1
 obtain ⟨a3,t3,rfl,_,k3⟩:=i64_fit k2
 obtain ⟨a4,t4,rfl,_,k4⟩:=i64_fit k3
 obtain rfl:=fits_nil k4
 have h1':Fits' [.sl false [.sl false [.int .i64]]] [d1]:=h1
 obtain ⟨l,t5,e5,_⟩:=issl_fit h1'
 obtain ⟨rfl,rfl⟩:=List.cons.inj e5
 have h2':∃ ds,d2=.agg ds∧Fits' [.sl false [.int .i64],.sl false [.int .i64]] ds:=h2
 obtain ⟨ds2,rfl,q0⟩:=h2'
 obtain ⟨u,t6,rfl,q1⟩:=intl_fit q0
 obtain ⟨s,t7,rfl,q2⟩:=intl_fit q1
 obtain rfl:=fits_nil q2
 have hw2:(1+(1+(1+(1+0))))+((wgts (iss l)+1)+((((wgts (ints u)+1)+((wgts (ints s)+1)+0)))+0))≤1048576:=hw
 have e1:=wgts_iss l
 have e2:=wgts_ints u
 have e3:=wgts_ints s
 exact law5 a1 a2 a3 a4 l u s (by omega) (fun o ho=>by have:=e1.2 o ho; omega) (by omega) (by omega)
theorem accessSetsUpto:Rows.AccessSetsUptoCardSaid:=card5 lawAll5
end Go.Proofs.YtifgdpnmgeffbaaGreatDoor
