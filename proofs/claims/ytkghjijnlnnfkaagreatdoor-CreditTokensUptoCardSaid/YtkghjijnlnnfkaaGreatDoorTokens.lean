/- The statement CreditTokens of chapter 08 (its card, up to a size): it answers true for every account, token and list of tokens, without a panic. No conditions but those of the card. -/
import Derived.Test.YtkghjijnlnnfkaaGreatDoorG26
import Derived.Test.YtkghjijnlnnfkaaGreatDoorG27
import Derived.Test.YtkghjijnlnnfkaaGreatDoorG28
set_option linter.unusedSectionVars false
set_option linter.unusedVariables false
set_option linter.unusedSimpArgs false
namespace Go.Proofs.YtkghjijnlnnfkaaGreatDoor
open Go.ChangeShapes Go.WideShapes Go.ChangeAt Go.RowKit Vc
theorem lawAll4 (xs:List Vc.Data) (hf:FitAs at4 xs) (hw:wgts xs≤1048576):CallDet Tryz.prog 4 (xs.map .d) [.bool true]:=by
 simp only [at4,FitAs] at hf
 obtain ⟨d0,r0,rfl,h0,d1,r1,rfl,h1,d2,r2,rfl,h2,rfl⟩:=hf
 have h0':∃ ds,d0=.agg ds∧Fits' [.int .i64,.int .i64,.int .i64,.int .i64,.int .u8,.int .u8,.int .u8,.int .u8,.int .u8,.int .u8,.int .u8,.int .u8,.int .u8,.int .u8,.int .u8,.int .u8,.int .u8,.int .u8,.int .u8,.int .u8,.bool,.sl false [.int .i64]] ds:=h0
 obtain ⟨ds0,rfl,p0⟩:=h0'
 obtain ⟨a,⟨hk,hn⟩,rfl⟩:=acc_fit_ok p0
 have h1':∃ ds,d1=.agg ds∧Fits' [.int .i64,.int .i64,.int .u8,.int .u8,.int .u8,.int .u8,.int .u8,.int .u8,.int .u8,.int .u8] ds:=h1
 obtain ⟨ds1,rfl,p1⟩:=h1'
 obtain ⟨n,t1,rfl,_,p2⟩:=i64_fit p1
 obtain ⟨m,t2,rfl,_,p3⟩:=i64_fit p2
 obtain ⟨q,t3,rfl,_,p4⟩:=key_fit_ok p3
 obtain rfl:=fits_nil p4
 have h2':Fits' [.sl true [.int .i64,.int .i64,.int .u8,.int .u8,.int .u8,.int .u8,.int .u8,.int .u8,.int .u8,.int .u8]] [d2]:=h2
 obtain ⟨l,t4,e1,p5⟩:=tkl_fit h2'
 cases e1
 have e3:=wgts_ints a.u
 have e4:=wgts_tks l
 have hw2:wgts (ints a.u)≤1048576∧wgts (tks l)≤1048576:=by
  have h:=hw
  simp only [wgts,wgt] at h
  omega
 exact c4 a a.c n m q l (by omega) (by omega) hk hn
theorem creditTokensUpto:Rows.CreditTokensUptoCardSaid:=card4 lawAll4
end Go.Proofs.YtkghjijnlnnfkaaGreatDoor
