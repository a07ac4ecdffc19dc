/- The statement TariffTariffs of chapter 07 (its card, up to a size): it answers true for every tariff, calendar and day, without a panic. No conditions but those of the card. -/
import Derived.Test.YtmffgalmdnpcgaaGreatDoorG35
import Derived.Test.YtmffgalmdnpcgaaGreatDoorG36
set_option linter.unusedSectionVars false
set_option linter.unusedVariables false
set_option linter.unusedSimpArgs false
namespace Go.Proofs.YtmffgalmdnpcgaaGreatDoor
open Go.ChangeShapes Go.WideShapes Go.ChangeAt Go.RowKit Vc
theorem lawAll3 (xs:List Vc.Data) (hf:FitAs at3 xs) (hw:wgts xs≤1048576):CallDet Tryz.prog 3 (xs.map .d) [.bool true]:=by
 simp only [at3,FitAs] at hf
 obtain ⟨d0,r0,rfl,h0,d1,r1,rfl,h1,d2,r2,rfl,h2,rfl⟩:=hf
 have h0':∃ ds,d0=.agg ds∧Fits' [.sl false [.int .i64],.sl false [.sl true [.int .i64,.int .i64]],.sl true [.int .i64,.int .i64,.int .i64,.int .i64,.int .i64,.int .i64,.int .i64,.int .i64],.sl true [.int .i64,.int .i64]] ds:=h0
 obtain ⟨ds0,rfl,p0⟩:=h0'
 obtain ⟨u,t0,rfl,p1⟩:=tf_fit p0
 obtain rfl:=fits_nil p1
 have h1':∃ ds,d1=.agg ds∧Fits' [.int .i64,.sl true [.int .i64,.int .i64,.sl false [.int .i64],.sl false [.sl true [.int .i64,.int .i64]],.sl true [.int .i64,.int .i64,.int .i64,.int .i64,.int .i64,.int .i64,.int .i64,.int .i64],.sl true [.int .i64,.int .i64]]] ds:=h1
 obtain ⟨ds1,rfl,q0⟩:=h1'
 obtain ⟨no,t1,rfl,_,q1⟩:=i64_fit q0
 obtain ⟨l,t2,rfl,q2⟩:=vrl_fit q1
 obtain rfl:=fits_nil q2
 have h2':Fits' [.int .i64] [d2]:=h2
 obtain ⟨day,t3,e1,_,_⟩:=i64_fit h2'
 cases e1
 have e:wgts [Vc.Data.agg [.slice 1 (ints u.p),.slice 1 (tys u.t),.slice 8 (seas u.s),.slice 2 (sws u.b)],.agg [.int .i64 no,.slice 6 (vrs l)],.int .i64 day]=wgt (tfD u)+((1+((wgts (vrs l)+1)+0))+(1+0)):=rfl
 have hv:=wgts_vrs l
 rw [e] at hw
 exact c3 u (tf_ok (by omega)) no l (by omega) (fun x hx=>tf_ok (by have:=hv.2 x hx; omega)) day
theorem tariffTariffsUpto:Rows.TariffTariffsUptoCardSaid:=card3 lawAll3
end Go.Proofs.YtmffgalmdnpcgaaGreatDoor
