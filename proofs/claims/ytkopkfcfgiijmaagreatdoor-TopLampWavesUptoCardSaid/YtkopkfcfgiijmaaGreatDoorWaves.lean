/- The statement TopLampWaves (its card, up to a size): it answers true for every mesh, every coordinator and all pairs that are lost, without a panic. No conditions but those of the card. -/
import Derived.Test.YtkopkfcfgiijmaaGreatDoorG24
import Derived.Test.YtkopkfcfgiijmaaGreatDoorG25
set_option linter.unusedSectionVars false
set_option linter.unusedVariables false
set_option linter.unusedSimpArgs false
namespace Go.Proofs.YtkopkfcfgiijmaaGreatDoor
open Go.ChangeShapes Go.WideShapes Go.ChangeAt Go.RowKit Vc
theorem law3 (xs:List Vc.Data) (hf:FitAs at3 xs) (hw:wgts xs≤1048576):CallDet Tryz.prog 3 (xs.map .d) [.bool true]:=by
 simp only [at3,FitAs] at hf
 obtain ⟨d0,r0,rfl,h0,d1,r1,rfl,h1,d2,r2,rfl,h2,rfl⟩:=hf
 have h0':∃ ds,d0=.agg ds∧Fits' [.sl false [.str],.sl true [.int .i64,.int .i64,.int .i64]] ds:=h0
 obtain ⟨ds0,rfl,k0⟩:=h0'
 obtain ⟨m,em⟩:=ms_fit k0
 rw [em] at hw ⊢
 have e1:=wgt_ms m
 have h1':Fits' [.int .u8] [d1]:=h1
 obtain ⟨q,t0,e0,hq,_⟩:=u8_fit h1'
 obtain ⟨rfl,rfl⟩:=List.cons.inj e0
 have h2':Fits' [.sl true [.int .u8,.int .u8]] [d2]:=h2
 obtain ⟨lo,t4,e3,hlp,_⟩:=u8pl_fit h2'
 obtain ⟨rfl,rfl⟩:=List.cons.inj e3
 have hw2:wgt m.d+(1+((wgts (u8ps lo)+1)+0))≤1048576:=hw
 have e4:=wgts_u8ps lo
 exact k3 m q lo (by omega) (by omega) (by omega) hq hlp
theorem topLampWavesUpto:Rows.TopLampWavesUptoCardSaid:=card3 law3
end Go.Proofs.YtkopkfcfgiijmaaGreatDoor
