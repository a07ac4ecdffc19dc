/- The statement CreditPhases of chapter 08 (its card, up to a size): it answers true for every account, key and amount, without a panic. No conditions but those of the card. -/
import Derived.Test.YtmjbifmndhianaaGreatDoorG26
import Derived.Test.YtmjbifmndhianaaGreatDoorG27
import Derived.Test.YtmjbifmndhianaaGreatDoorG29
set_option linter.unusedSectionVars false
set_option linter.unusedVariables false
set_option linter.unusedSimpArgs false
namespace Go.Proofs.YtmjbifmndhianaaGreatDoor
open Go.ChangeShapes Go.WideShapes Go.ChangeAt Go.RowKit Vc
theorem lawAll9 (xs:List Vc.Data) (hf:FitAs at9 xs) (hw:wgts xs≤1048576):CallDet Tryz.prog 9 (xs.map .d) [.bool true]:=by
 simp only [at9,FitAs] at hf
 obtain ⟨d0,r0,rfl,h0,d1,r1,rfl,h1,d2,r2,rfl,h2,rfl⟩:=hf
 have h0':∃ ds,d0=.agg ds∧Fits' [.int .i64,.int .i64,.int .i64,.int .i64,.int .u8,.int .u8,.int .u8,.int .u8,.int .u8,.int .u8,.int .u8,.int .u8,.int .u8,.int .u8,.int .u8,.int .u8,.int .u8,.int .u8,.int .u8,.int .u8,.bool,.sl false [.int .i64]] ds:=h0
 obtain ⟨ds0,rfl,p0⟩:=h0'
 obtain ⟨a,⟨hk,hn⟩,rfl⟩:=acc_fit_ok p0
 have h1':∃ ds,d1=.agg ds∧Fits' [.int .u8,.int .u8,.int .u8,.int .u8,.int .u8,.int .u8,.int .u8,.int .u8] ds:=h1
 obtain ⟨ds1,rfl,p1⟩:=h1'
 obtain ⟨q,t1,rfl,hq,p2⟩:=key_fit_ok p1
 obtain rfl:=fits_nil p2
 have h2':Fits' [.int .u16] [d2]:=h2
 obtain ⟨n,t2,e2,b2,p3⟩:=u16_fit h2'
 cases e2
 have e3:=wgts_ints a.u
 have hw2:wgts (ints a.u)≤1048576:=by
  have h:=hw
  simp only [wgts,wgt] at h
  omega
 exact c9 a a.c q n (by omega) hk hn hq b2
theorem creditPhasesUpto:Rows.CreditPhasesUptoCardSaid:=card9 lawAll9
end Go.Proofs.YtmjbifmndhianaaGreatDoor
