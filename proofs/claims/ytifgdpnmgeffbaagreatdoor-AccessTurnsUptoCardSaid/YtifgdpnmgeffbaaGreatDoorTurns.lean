/- The statement AccessTurns of chapter 09 (its card, up to a size): it answers true for every load, cap and number of slots, without a panic. No conditions but those of the card. -/
import Derived.Test.YtifgdpnmgeffbaaGreatDoorG22
import Derived.Test.YtifgdpnmgeffbaaGreatDoorG23
import Derived.Test.YtifgdpnmgeffbaaGreatDoorG27
set_option linter.unusedSectionVars false
set_option linter.unusedVariables false
set_option linter.unusedSimpArgs false
namespace Go.Proofs.YtifgdpnmgeffbaaGreatDoor
open Go.ChangeShapes Go.WideShapes Go.ChangeAt Go.RowKit Vc
theorem lawAll8 (xs:List Vc.Data) (hf:FitAs at8 xs) (hw:wgts xs≤1048576):CallDet Tryz.prog 8 (xs.map .d) [.bool true]:=by
 simp only [at8,FitAs] at hf
 obtain ⟨d0,r0,rfl,h0,d1,r1,rfl,h1,d2,r2,rfl,h2,rfl⟩:=hf
 have h0':Fits' [.sl true [.str,.int .i64]] [d0]:=h0
 obtain ⟨l,t0,e0,_⟩:=ldsl_fit h0'
 obtain ⟨rfl,rfl⟩:=List.cons.inj e0
 have h1':Fits' [.int .i64] [d1]:=h1
 obtain ⟨a,t1,e1,_,_⟩:=i64_fit h1'
 obtain ⟨rfl,rfl⟩:=List.cons.inj e1
 have h2':Fits' [.int .i64] [d2]:=h2
 obtain ⟨b,t2,e2,_,_⟩:=i64_fit h2'
 obtain ⟨rfl,rfl⟩:=List.cons.inj e2
 have hw2:(wgts (lds l)+1)+(1+(1+0))≤1048576:=hw
 have e3:=wgts_lds l
 exact law8 l a b (by omega)
theorem accessTurnsUpto:Rows.AccessTurnsUptoCardSaid:=card8 lawAll8
end Go.Proofs.YtifgdpnmgeffbaaGreatDoor
