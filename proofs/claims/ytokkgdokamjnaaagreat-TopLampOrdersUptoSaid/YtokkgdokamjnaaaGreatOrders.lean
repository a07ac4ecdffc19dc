/- The statement TopLampOrders (up to a size): it answers true for all meshes, hours, nodes, ticks and lost pairs, without a panic. No conditions but those of the row. -/
import Derived.Test.YtokkgdokamjnaaaGreatG11
import Derived.Test.YtokkgdokamjnaaaGreatG26
set_option linter.unusedSectionVars false
set_option linter.unusedVariables false
set_option linter.unusedSimpArgs false
namespace Go.Proofs.YtokkgdokamjnaaaGreat
open Go.ChangeShapes Go.WideShapes Go.ChangeAt Go.RowKit Vc
theorem law3 (xs:List Vc.Data) (hf:FitAs at3 xs) (hw:wgts xs≤1048576):CallDet Tryz.prog 3 (xs.map .d) [.bool true]:=by
 simp only [at3,FitAs] at hf
 obtain ⟨d0,r0,rfl,h0,d1,r1,rfl,h1,d2,r2,rfl,h2,rfl⟩:=hf
 have h0':∃ ds,d0=.agg ds∧Fits' [.sl false [.str],.sl true [.int .i64,.int .i64,.int .i64]] ds:=h0
 obtain ⟨ds0,rfl,f0⟩:=h0'
 obtain ⟨m,em⟩:=ms_fit f0
 rw [em] at hw ⊢
 have h1':Fits' [.sl true [.bool,.bool,.bool,.bool,.bool,.bool,.bool,.int .i64,.int .i64]] [d1]:=h1
 obtain ⟨H,t1,e1,_⟩:=hrl_fit h1'
 cases e1
 have h2':∃ ds,d2=.agg ds∧Fits' [.int .u8,.int .u8,.int .u8,.int .u32,.int .u16,.int .u16,.sl true [.int .u8,.int .u8]] ds:=h2
 obtain ⟨ds2,rfl,f2⟩:=h2'
 obtain ⟨n0,t2,rfl,b0,f3⟩:=u8_fit f2
 obtain ⟨n1,t3,rfl,b1,f4⟩:=u8_fit f3
 obtain ⟨n2,t4,rfl,b2,f5⟩:=u8_fit f4
 obtain ⟨T0,t5,rfl,b3,f6⟩:=u32_fit f5
 obtain ⟨la,t6,rfl,b4,f7⟩:=u16_fit f6
 obtain ⟨f0,t7,rfl,b5,f8⟩:=u16_fit f7
 obtain ⟨xs,t8,rfl,b6,f9⟩:=lo8l_fit f8
 obtain rfl:=fits_nil f9
 have e1:=wgt_ms m
 have e2:=wgts_hrs H
 have hw2:wgt m.d≤1048576∧wgts (L.hrs H)≤1048576:=by
  have h:=hw
  simp only [wgts] at h
  refine ⟨by omega,?_⟩
  have e:wgt (Vc.Data.slice 9 (L.hrs H))=wgts (L.hrs H)+1:=rfl
  omega
 exact k3 m H xs n0 n1 n2 T0 la f0 (by omega) (by omega) (by omega) b6 b0 b1 b2 b3 b4 b5
theorem topLampOrdersUpto:Rows.TopLampOrdersUptoSaid:=said3 law3
end Go.Proofs.YtokkgdokamjnaaaGreat
