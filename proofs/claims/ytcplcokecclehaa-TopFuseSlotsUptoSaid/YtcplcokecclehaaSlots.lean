/- The statement TopFuseSlots (up to a size): it answers true for all tones, all parts and all stations, without a panic. No conditions but those of the row. -/
import Derived.Test.YtcplcokecclehaaG09
import Derived.Test.YtcplcokecclehaaG20
set_option linter.unusedSectionVars false
set_option linter.unusedVariables false
set_option linter.unusedSimpArgs false
namespace Vc
open Go Go.Proofs
theorem int_fit {k:IntKind} {r:List CT} {ds:List Data} (h:Fits' (.int k::r) ds):∃ n t,ds=.int k n::t∧(Lit.int k n).wf=true∧Fits' r t:=by
 simp only [Fits',Fit] at h
 obtain ⟨d,t,rfl,⟨n,rfl,hn⟩,ht⟩:=h
 exact ⟨n,t,rfl,hn,ht⟩
theorem i64_fit {r:List CT} {ds:List Data} (h:Fits' (.int .i64::r) ds):∃ (n:Int) (t:List Data),ds=.int .i64 n::t∧(-9223372036854775808≤n∧n≤9223372036854775807)∧Fits' r t:=by
 obtain ⟨n,t,rfl,hn,ht⟩:=int_fit h
 refine ⟨n,t,rfl,?_,ht⟩
 simp [Lit.wf] at hn
 have h1:IntKind.i64.min=-9223372036854775808:=rfl
 have h2:IntKind.i64.max=9223372036854775807:=rfl
 omega
theorem fits_nil {ds:List Vc.Data} (h:Fits' [] ds):ds=[]:=by simpa only [Fits'] using h
theorem ints_fit:∀ {es:List Data},(∀ e∈es,Fits' [.int .i64] [e])→∃ l:List Int,es=ints l
 | [],_=>⟨[],rfl⟩
 | e::r,h=>by
  obtain ⟨c,t,h1,_,_⟩:=i64_fit (h e List.mem_cons_self)
  obtain ⟨b,rfl⟩:=ints_fit (es:=r) fun x hx=>h x (List.mem_cons_of_mem _ hx)
  cases h1
  exact ⟨c::b,rfl⟩
theorem intl_fit {r:List CT} {ds:List Data} (h:Fits' (.sl false [.int .i64]::r) ds):∃ (b:List Int) (t:List Data),ds=.slice 1 (ints b)::t∧Fits' r t:=by
 simp only [Fits'] at h
 obtain ⟨d,t,rfl,hd,ht⟩:=h
 simp only [Fit] at hd
 obtain ⟨es,rfl,he⟩:=hd
 obtain ⟨b,rfl⟩:=ints_fit (es:=es) fun e h=>by
  have:=he e h
  simpa [Fits',Fit] using this
 exact ⟨b,t,rfl,ht⟩
theorem u8_fit {r:List CT} {ds:List Data} (h:Fits' (.int .u8::r) ds):∃ (n:Int) (t:List Data),ds=.int .u8 n::t∧(0≤n∧n≤255)∧Fits' r t:=by
 obtain ⟨n,t,rfl,hn,ht⟩:=int_fit h
 refine ⟨n,t,rfl,?_,ht⟩
 simp [Lit.wf] at hn
 have h1:IntKind.u8.min=0:=rfl
 have h2:IntKind.u8.max=255:=rfl
 omega
theorem u8ps_fit:∀ {es:List Data},(∀ e∈es,∃ ds,e=.agg ds∧Fits' [.int .u8,.int .u8] ds)→∃ l:List (Int × Int),es=u8ps l∧∀ p∈l,(0≤p.1∧p.1≤255)∧(0≤p.2∧p.2≤255)
 | [],_=>⟨[],rfl,fun _ h=>by cases h⟩
 | e::r,h=>by
  obtain ⟨ds,rfl,hd⟩:=h e List.mem_cons_self
  obtain ⟨a,t1,rfl,ha,h1⟩:=u8_fit hd
  obtain ⟨b,t2,rfl,hb,h2⟩:=u8_fit h1
  obtain rfl:=fits_nil h2
  obtain ⟨l,rfl,hl⟩:=u8ps_fit (es:=r) fun x hx=>h x (List.mem_cons_of_mem _ hx)
  exact ⟨(a,b)::l,rfl,fun p hp=>by
   rcases List.mem_cons.1 hp with rfl | hp
   ·exact ⟨ha,hb⟩
   ·exact hl p hp⟩
theorem u8pl_fit {r:List CT} {ds:List Data} (h:Fits' (.sl true [.int .u8,.int .u8]::r) ds):∃ (l:List (Int × Int)) (t:List Data),ds=.slice 2 (u8ps l)::t∧(∀ p∈l,(0≤p.1∧p.1≤255)∧(0≤p.2∧p.2≤255))∧Fits' r t:=by
 simp only [Fits'] at h
 obtain ⟨d,t,rfl,hd,ht⟩:=h
 simp only [Fit] at hd
 obtain ⟨es,rfl,he⟩:=hd
 obtain ⟨l,rfl,hl⟩:=u8ps_fit (es:=es) fun e h=>by
  obtain ⟨ds,h1,h2⟩:=he e h
  exact ⟨ds,h1,by simpa only [Fits'] using h2⟩
 exact ⟨l,t,rfl,hl,ht⟩
theorem rows_fit:∀ {es:List Data},(∀ e∈es,Fits' [.sl false [.int .i64]] [e])→∃ l:List (List Int),es=rws l
 | [],_=>⟨[],rfl⟩
 | e::r,h=>by
  obtain ⟨c,t,h1,_⟩:=intl_fit (h e List.mem_cons_self)
  obtain ⟨b,rfl⟩:=rows_fit (es:=r) fun x hx=>h x (List.mem_cons_of_mem _ hx)
  cases h1
  exact ⟨c::b,rfl⟩
theorem rowl_fit {r:List CT} {ds:List Data} (h:Fits' (.sl false [.sl false [.int .i64]]::r) ds):∃ (b:List (List Int)) (t:List Data),ds=.slice 1 (rws b)::t∧Fits' r t:=by
 rw [Fits'] at h
 obtain ⟨d,t,rfl,hd,ht⟩:=h
 rw [Fit] at hd
 obtain ⟨es,rfl,he⟩:=hd
 obtain ⟨b,rfl⟩:=rows_fit (es:=es) fun e h=>he e h
 exact ⟨b,t,rfl,ht⟩
theorem wgts_ints:∀ (l:List Int),l.length≤wgts (ints l)
 | []=>Nat.zero_le _
 | x::r=>by
  have h:=wgts_ints r
  have e:wgts (ints (x::r))=1+wgts (ints r):=rfl
  rw [e]; simp only [List.length_cons]; omega
theorem wgts_rws:∀ (l:List (List Int)),l.length≤wgts (rws l)
 | []=>Nat.zero_le _
 | x::r=>by
  have h:=wgts_rws r
  have e:wgts (rws (x::r))=(wgts (ints x)+1)+wgts (rws r):=rfl
  rw [e]; simp only [List.length_cons]; omega
theorem wgts_u8ps:∀ (l:List (Int × Int)),l.length≤wgts (u8ps l)
 | []=>Nat.zero_le _
 | x::r=>by
  have h:=wgts_u8ps r
  have e:wgts (u8ps (x::r))=(1+(1+0))+wgts (u8ps r):=rfl
  rw [e]; simp only [List.length_cons]; omega
end Vc
namespace Go.Proofs.Ytcplcokecclehaa
open Go.ChangeShapes Go.WideShapes Go.ChangeAt Go.RowKit Vc
theorem law3 (xs:List Vc.Data) (hf:FitAs at3 xs) (hw:wgts xs≤1048576):CallDet Try.prog 3 (xs.map .d) [.bool true]:=by
 simp only [at3,FitAs] at hf
 obtain ⟨d0,r0,rfl,h0,d1,r1,rfl,h1,d2,r2,rfl,h2,rfl⟩:=hf
 have h0':∃ ds,d0=.agg ds∧Fits' tnC ds:=h0
 obtain ⟨ds0,rfl,f0⟩:=h0'
 obtain ⟨a,t1,rfl,f1⟩:=intl_fit f0
 obtain ⟨b,t2,rfl,f2⟩:=rowl_fit f1
 obtain ⟨mg,t3,rfl,_,f3⟩:=i64_fit f2
 obtain ⟨mx,t4,rfl,_,f4⟩:=i64_fit f3
 obtain ⟨nt,t5,rfl,f5⟩:=intl_fit f4
 obtain rfl:=fits_nil f5
 have h1':Fits' [.int .u8] [d1]:=h1
 obtain ⟨q,t0,e0,hq,_⟩:=u8_fit h1'
 obtain ⟨rfl,rfl⟩:=List.cons.inj e0
 have h2':Fits' [.sl true [.int .u8,.int .u8]] [d2]:=h2
 obtain ⟨l,t6,e3,hlp,_⟩:=u8pl_fit h2'
 obtain ⟨rfl,rfl⟩:=List.cons.inj e3
 have hw2:((wgts (ints a)+1)+((wgts (rws b)+1)+(1+(1+((wgts (ints nt)+1)+0)))))+(1+((wgts (u8ps l)+1)+0))≤1048576:=hw
 have e1:=wgts_ints a
 have e2:=wgts_rws b
 have e4:=wgts_ints nt
 have e5:=wgts_u8ps l
 exact k3 ⟨a,b,mg,mx,nt⟩ q l (by show a.length≤_; omega) (by show b.length≤_; omega) (by show nt.length≤_; omega) (by omega) hq hlp
theorem topFuseSlotsUpto:Rows.TopFuseSlotsUptoSaid:=said3 law3
end Go.Proofs.Ytcplcokecclehaa
