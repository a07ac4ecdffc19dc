/- The statement CreditOnce of chapter 08 (its card, up to a size): it answers true for every account, tokens and numbers, without a panic. No conditions but those of the card. -/
import Derived.Test.YtmjbifmndhianaaGreatDoorG26
import Derived.Test.YtmjbifmndhianaaGreatDoorG29
import Derived.Test.YtmjbifmndhianaaGreatDoorG33
set_option linter.unusedSectionVars false
set_option linter.unusedVariables false
set_option linter.unusedSimpArgs false
namespace Go.Proofs.YtmjbifmndhianaaGreatDoor
open Go.ChangeShapes Go.WideShapes Go.ChangeAt Go.RowKit Vc
theorem lawAll8 (xs:List Vc.Data) (hf:FitAs at8 xs) (hw:wgts xs≤1048576):CallDet Tryz.prog 8 (xs.map .d) [.bool true]:=by
 simp only [at8,FitAs] at hf
 obtain ⟨d0,r0,rfl,h0,d1,r1,rfl,h1,d2,r2,rfl,h2,rfl⟩:=hf
 have h0':∃ ds,d0=.agg ds∧Fits' [.int .i64,.int .i64,.int .i64,.int .i64,.int .u8,.int .u8,.int .u8,.int .u8,.int .u8,.int .u8,.int .u8,.int .u8,.int .u8,.int .u8,.int .u8,.int .u8,.int .u8,.int .u8,.int .u8,.int .u8,.bool,.sl false [.int .i64]] ds:=h0
 obtain ⟨ds0,rfl,p0⟩:=h0'
 obtain ⟨a,⟨hk,hn⟩,rfl⟩:=acc_fit_ok p0
 have h1':Fits' [.sl true [.int .u16,.int .u16]] [d1]:=h1
 obtain ⟨l,t1,e1,hL,p1⟩:=u16l_fit h1'
 cases e1
 have h2':∃ ds,d2=.agg ds∧Fits' [.int .u8,.int .u8,.int .u8] ds:=h2
 obtain ⟨ds2,rfl,p2⟩:=h2'
 obtain ⟨n0,t2,rfl,b0,p3⟩:=u8_fit p2
 obtain ⟨n1,t3,rfl,b1,p4⟩:=u8_fit p3
 obtain ⟨n2,t4,rfl,b2,p5⟩:=u8_fit p4
 obtain rfl:=fits_nil p5
 have e3:=wgts_ints a.u
 have e4:=wgts_u16s l
 have hw2:wgts (ints a.u)≤1048576∧wgts (u16s l)≤1048576:=by
  have h:=hw
  simp only [wgts,wgt] at h
  omega
 exact c8 a a.c l n0 n1 n2 (by omega) (by omega) hk hn hL b0 b1 b2
theorem creditOnceUpto:Rows.CreditOnceUptoCardSaid:=card8 lawAll8
end Go.Proofs.YtmjbifmndhianaaGreatDoor
