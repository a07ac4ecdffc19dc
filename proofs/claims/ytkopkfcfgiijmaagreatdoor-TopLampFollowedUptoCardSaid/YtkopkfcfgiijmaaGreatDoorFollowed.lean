/- The statement TopLampFollowed (its card, up to a size): it answers true for every mesh, all numbers and every message, without a panic. No conditions but those of the card. -/
import Derived.Test.YtkopkfcfgiijmaaGreatDoorG22
import Derived.Test.YtkopkfcfgiijmaaGreatDoorG23
set_option linter.unusedSectionVars false
set_option linter.unusedVariables false
set_option linter.unusedSimpArgs false
namespace Vc
open Go Go.Proofs
theorem byt_fit {r:List CT} {ds:List Data} (h:Fits' (.int .u8::r) ds):∃ (c:UInt8) (t:List Data),ds=L.byt c::t∧Fits' r t:=by
 obtain ⟨n,t,rfl,hn,ht⟩:=u8_fit h
 refine ⟨UInt8.ofNat n.toNat,t,?_,ht⟩
 rw [L.byt,show ((UInt8.ofNat n.toNat).toNat:Int)=n by rw [UInt8.toNat_ofNat']; omega]
theorem byts_fit:∀ {es:List Data},(∀ e∈es,Fits' [.int .u8] [e])→∃ b:List UInt8,es=b.map L.byt
 | [],_=>⟨[],rfl⟩
 | e::r,h=>by
  obtain ⟨c,t,h1,_⟩:=byt_fit (h e List.mem_cons_self)
  obtain ⟨b,rfl⟩:=byts_fit (es:=r) fun x hx=>h x (List.mem_cons_of_mem _ hx)
  cases h1
  exact ⟨c::b,rfl⟩
theorem bytl_fit {r:List CT} {ds:List Data} (h:Fits' (.sl false [.int .u8]::r) ds):∃ (b:List UInt8) (t:List Data),ds=.slice 1 (b.map L.byt)::t∧Fits' r t:=by
 simp only [Fits'] at h
 obtain ⟨d,t,rfl,hd,ht⟩:=h
 simp only [Fit] at hd
 obtain ⟨es,rfl,he⟩:=hd
 obtain ⟨b,rfl⟩:=byts_fit (es:=es) fun e h=>by
  have:=he e h
  simpa [Fits',Fit] using this
 exact ⟨b,t,rfl,ht⟩
theorem bool_fit {r:List CT} {ds:List Data} (h:Fits' (.bool::r) ds):∃ (b:Bool) (t:List Data),ds=.bool b::t∧Fits' r t:=by
 simp only [Fits',Fit] at h
 obtain ⟨d,t,rfl,⟨b,rfl⟩,ht⟩:=h
 exact ⟨b,t,rfl,ht⟩
theorem hops_fit:∀ {es:List Data},(∀ e∈es,∃ ds,e=.agg ds∧Fits' [.int .u8,.int .u8,.bool] ds)→∃ l:List (Int × Int × Bool),es=hops l
 | [],_=>⟨[],rfl⟩
 | e::r,h=>by
  obtain ⟨ds,rfl,hd⟩:=h e List.mem_cons_self
  obtain ⟨a,t1,rfl,_,h1⟩:=u8_fit hd
  obtain ⟨b,t2,rfl,_,h2⟩:=u8_fit h1
  obtain ⟨c,t3,rfl,h3⟩:=bool_fit h2
  obtain rfl:=fits_nil h3
  obtain ⟨l,rfl⟩:=hops_fit (es:=r) fun x hx=>h x (List.mem_cons_of_mem _ hx)
  exact ⟨(a,b,c)::l,rfl⟩
theorem hopl_fit {r:List CT} {ds:List Data} (h:Fits' (.sl true [.int .u8,.int .u8,.bool]::r) ds):∃ (l:List (Int × Int × Bool)) (t:List Data),ds=.slice 3 (hops l)::t∧Fits' r t:=by
 simp only [Fits'] at h
 obtain ⟨d,t,rfl,hd,ht⟩:=h
 simp only [Fit] at hd
 obtain ⟨es,rfl,he⟩:=hd
 obtain ⟨l,rfl⟩:=hops_fit (es:=es) fun e h=>by
  obtain ⟨ds,h1,h2⟩:=he e h
  exact ⟨ds,h1,by simpa only [Fits'] using h2⟩
 exact ⟨l,t,rfl,ht⟩
end Vc
namespace Go.Proofs.YtkopkfcfgiijmaaGreatDoor
open Go.ChangeShapes Go.WideShapes Go.ChangeAt Go.RowKit Vc
theorem law4 (xs:List Vc.Data) (hf:FitAs at4 xs) (hw:wgts xs≤1048576):CallDet Tryz.prog 4 (xs.map .d) [.bool true]:=by
 simp only [at4,FitAs] at hf
 obtain ⟨d0,r0,rfl,h0,d1,r1,rfl,h1,d2,r2,rfl,h2,rfl⟩:=hf
 have h0':∃ ds,d0=.agg ds∧Fits' [.sl false [.str],.sl true [.int .i64,.int .i64,.int .i64]] ds:=h0
 obtain ⟨ds0,rfl,f0⟩:=h0'
 obtain ⟨m,em⟩:=ms_fit f0
 rw [em] at hw ⊢
 have e1:=wgt_ms m
 have h1':∃ ds,d1=.agg ds∧Fits' [.int .u8,.int .u8] ds:=h1
 obtain ⟨ds1,rfl,f1⟩:=h1'
 obtain ⟨q0,t1,rfl,hq0,f2⟩:=u8_fit f1
 obtain ⟨q1,t2,rfl,hq1,f3⟩:=u8_fit f2
 obtain rfl:=fits_nil f3
 have h2':∃ ds,d2=.agg ds∧Fits' [.sl false [.int .u8],.sl true [.int .u8,.int .u8,.bool]] ds:=h2
 obtain ⟨ds2,rfl,f4⟩:=h2'
 obtain ⟨b,t3,rfl,f5⟩:=bytl_fit f4
 obtain ⟨l,t4,rfl,f6⟩:=hopl_fit f5
 obtain rfl:=fits_nil f6
 have hw2:wgt m.d+((1+(1+0))+(((wgts (b.map L.byt)+1)+((wgts (hops l)+1)+0))+0))≤1048576:=hw
 exact k4 m q0 q1 b l (by omega) (by omega) hq0 hq1
theorem topLampFollowedUpto:Rows.TopLampFollowedUptoCardSaid:=card4 law4
end Go.Proofs.YtkopkfcfgiijmaaGreatDoor
