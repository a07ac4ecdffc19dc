/- The statement CreditKeys of chapter 08 (its card, up to a size): it answers true for every account, key, block and token, without a panic. No conditions but those of the card. -/
import Derived.Test.YtkghjijnlnnfkaaGreatDoorG23
import Derived.Test.YtkghjijnlnnfkaaGreatDoorG24
import Derived.Test.YtkghjijnlnnfkaaGreatDoorG26
set_option linter.unusedSectionVars false
set_option linter.unusedVariables false
set_option linter.unusedSimpArgs false
namespace Go.Proofs.YtkghjijnlnnfkaaGreatDoor
open Go.ChangeShapes Go.WideShapes Go.ChangeAt Go.RowKit Vc
theorem lawAll5 (xs:List Vc.Data) (hf:FitAs at5 xs) (hw:wgts xs≤1048576):CallDet Tryz.prog 5 (xs.map .d) [.bool true]:=by
 simp only [at5,FitAs] at hf
 obtain ⟨d0,r0,rfl,h0,d1,r1,rfl,h1,d2,r2,rfl,h2,rfl⟩:=hf
 have h0':∃ ds,d0=.agg ds∧Fits' [.int .i64,.int .i64,.int .i64,.int .i64,.int .u8,.int .u8,.int .u8,.int .u8,.int .u8,.int .u8,.int .u8,.int .u8,.int .u8,.int .u8,.int .u8,.int .u8,.int .u8,.int .u8,.int .u8,.int .u8,.bool,.sl false [.int .i64]] ds:=h0
 obtain ⟨ds0,rfl,p0⟩:=h0'
 obtain ⟨a,rfl⟩:=acc_fit p0
 have h1':∃ ds,d1=.agg ds∧Fits' [.int .u8,.int .u8,.int .u8,.int .u8,.int .u8,.int .u8,.int .u8,.int .u8,.int .u8,.int .u8,.int .u8,.int .u8,.int .u8,.int .u8,.int .u8,.int .u8,.int .u8,.int .u8,.int .u8,.int .u8,.int .u8,.int .u8,.int .u8,.int .u8] ds:=h1
 obtain ⟨ds1,rfl,p1⟩:=h1'
 obtain ⟨q,t1,rfl,hq,p2⟩:=key_fit_ok p1
 obtain ⟨p,t2,rfl,hp,p3⟩:=key_fit_ok p2
 obtain ⟨r,t3,rfl,hr,p4⟩:=key_fit_ok p3
 obtain rfl:=fits_nil p4
 have h2':∃ ds,d2=.agg ds∧Fits' [.int .i64,.int .i64,.int .u8,.int .u8,.int .u8,.int .u8,.int .u8,.int .u8,.int .u8,.int .u8] ds:=h2
 obtain ⟨ds2,rfl,p5⟩:=h2'
 obtain ⟨n,t4,rfl,_,p6⟩:=i64_fit p5
 obtain ⟨m,t5,rfl,_,p7⟩:=i64_fit p6
 obtain ⟨k,t6,rfl,_,p8⟩:=key_fit_ok p7
 obtain rfl:=fits_nil p8
 have e3:=wgts_ints a.u
 have hw2:wgts (ints a.u)≤1048576:=by
  have h:=hw
  simp only [wgts,wgt] at h
  omega
 exact c5 a a.c q p r k n m (by omega) hq hp
theorem creditKeysUpto:Rows.CreditKeysUptoCardSaid:=card5 lawAll5
end Go.Proofs.YtkghjijnlnnfkaaGreatDoor
