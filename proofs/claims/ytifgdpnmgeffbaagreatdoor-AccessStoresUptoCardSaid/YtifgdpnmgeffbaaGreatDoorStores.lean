/- The statement AccessStores of chapter 09 (its card, up to a size): it answers true for every store and program, without a panic. No conditions but those of the card. -/
import Derived.Test.YtifgdpnmgeffbaaGreatDoorG23
import Derived.Test.YtifgdpnmgeffbaaGreatDoorG24
import Derived.Test.YtifgdpnmgeffbaaGreatDoorG26
set_option linter.unusedSectionVars false
set_option linter.unusedVariables false
set_option linter.unusedSimpArgs false
namespace Go.Proofs.YtifgdpnmgeffbaaGreatDoor
open Go.ChangeShapes Go.WideShapes Go.ChangeAt Go.RowKit Vc
theorem lawAll7 (xs:List Vc.Data) (hf:FitAs at7 xs) (hw:wgts xs≤1048576):CallDet Tryz.prog 7 (xs.map .d) [.bool true]:=by
 simp only [at7,FitAs] at hf
 obtain ⟨d0,r0,rfl,h0,d1,r1,rfl,h1,rfl⟩:=hf
 have h0':∃ ds,d0=.agg ds∧Fits' [.int .i64,.int .i64,.int .i64,.int .i64,.sl false [.sl false [.int .u8]],.bool,.bool] ds:=h0
 obtain ⟨ds0,rfl,k0⟩:=h0'
 obtain ⟨a1,t1,rfl,_,k1⟩:=i64_fit k0
 obtain ⟨a2,t2,rfl,_,k2⟩:=i64_fit k1
 obtain ⟨a3,t3,rfl,_,k3⟩:=i64_fit k2
 obtain ⟨a4,t4,rfl,_,k4⟩:=i64_fit k3
 obtain ⟨l,t5,rfl,k5⟩:=pssl_fit k4
 obtain ⟨b1,t6,rfl,k6⟩:=bool_fit k5
 obtain ⟨b2,t7,rfl,k7⟩:=bool_fit k6
 obtain rfl:=fits_nil k7
 have h1':∃ ds,d1=.agg ds∧Fits' [.int .i64,.sl false [.sl false [.int .u8]],.int .i64,.int .i64,.int .i64,.sl false [.int .u8]] ds:=h1
 obtain ⟨ds1,rfl,q0⟩:=h1'
 obtain ⟨v,u1,rfl,_,q1⟩:=i64_fit q0
 obtain ⟨q,u2,rfl,q2⟩:=pssl_fit q1
 obtain ⟨n,u3,rfl,_,q3⟩:=i64_fit q2
 obtain ⟨m,u4,rfl,_,q4⟩:=i64_fit q3
 obtain ⟨i,u5,rfl,_,q5⟩:=i64_fit q4
 obtain ⟨p,u6,rfl,q6⟩:=bysl_fit q5
 obtain rfl:=fits_nil q6
 have hw2:(1+(1+(1+(1+((wgts (pss l)+1)+(1+(1+0)))))))+((1+((wgts (pss q)+1)+(1+(1+(1+((wgts (bys p)+1)+0))))))+0)≤1048576:=hw
 have e1:=wgts_pss l
 have e2:=wgts_pss q
 have e3:=wgts_bys p
 have hok:Sto.ok ⟨a1,a2,a3,a4,l,b1,b2⟩:=⟨by show l.length≤1048576; omega,by show l.flatten.length≤1048576; omega⟩
 exact law7 ⟨a1,a2,a3,a4,l,b1,b2⟩ v n m i q p hok (by omega) (by omega) (by omega)
theorem accessStoresUpto:Rows.AccessStoresUptoCardSaid:=card7 lawAll7
end Go.Proofs.YtifgdpnmgeffbaaGreatDoor
