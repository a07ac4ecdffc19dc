import Derived.Test.YtkopkfcfgiijmaaGreatDoorG22
import Derived.Test.YtkopkfcfgiijmaaGreatDoorG06
set_option linter.unusedSectionVars false
set_option linter.unusedVariables false
set_option linter.unusedSimpArgs false
namespace Vc
open Go Go.Proofs
theorem int_fit {k:IntKind} {r:List CT} {ds:List Data} (h:Fits' (.int k::r) ds):∃ n t,ds=.int k n::t∧(Lit.int k n).wf=true∧Fits' r t:=by
 simp only [Fits',Fit] at h
 obtain ⟨d,t,rfl,⟨n,rfl,hn⟩,ht⟩:=h
 exact ⟨n,t,rfl,hn,ht⟩
theorem i64_fit {r:List CT} {ds:List Data} (h:Fits' (.int .i64::r) ds):∃ (n:Int) (t:List Data),ds=.int .i64 n::t∧(-9223372036854775808≤n∧n≤9223372036854775807)∧Fits' r t:=by
 obtain ⟨n,t,rfl,hn,ht⟩:=int_fit h
 refine ⟨n,t,rfl,?_,ht⟩
 simp [Lit.wf] at hn
 have h1:IntKind.i64.min=-9223372036854775808:=rfl
 have h2:IntKind.i64.max=9223372036854775807:=rfl
 omega
theorem str_fit {r:List CT} {ds:List Data} (h:Fits' (.str::r) ds):∃ b t,ds=.str b::t∧Fits' r t:=by
 simp only [Fits',Fit] at h
 obtain ⟨d,t,rfl,⟨b,rfl⟩,ht⟩:=h
 exact ⟨b,t,rfl,ht⟩
theorem fits_nil {ds:List Vc.Data} (h:Fits' [] ds):ds=[]:=by simpa only [Fits'] using h
theorem strs_fit:∀ {es:List Data},(∀ e∈es,Fits' [.str] [e])→∃ l:List (List UInt8),es=strs l
 | [],_=>⟨[],rfl⟩
 | e::r,h=>by
  obtain ⟨c,t,h1,_⟩:=str_fit (h e List.mem_cons_self)
  obtain ⟨b,rfl⟩:=strs_fit (es:=r) fun x hx=>h x (List.mem_cons_of_mem _ hx)
  cases h1
  exact ⟨c::b,rfl⟩
theorem strl_fit {r:List CT} {ds:List Data} (h:Fits' (.sl false [.str]::r) ds):∃ (b:List (List UInt8)) (t:List Data),ds=.slice 1 (strs b)::t∧Fits' r t:=by
 simp only [Fits'] at h
 obtain ⟨d,t,rfl,hd,ht⟩:=h
 simp only [Fit] at hd
 obtain ⟨es,rfl,he⟩:=hd
 obtain ⟨b,rfl⟩:=strs_fit (es:=es) fun e h=>by
  have:=he e h
  simpa [Fits',Fit] using this
 exact ⟨b,t,rfl,ht⟩
theorem lks_fit:∀ {es:List Data},(∀ e∈es,∃ ds,e=.agg ds∧Fits' [.int .i64,.int .i64,.int .i64] ds)→∃ l:List Lk,es=lks l
 | [],_=>⟨[],rfl⟩
 | e::r,h=>by
  obtain ⟨ds,rfl,hd⟩:=h e List.mem_cons_self
  obtain ⟨a,t1,rfl,_,h1⟩:=i64_fit hd
  obtain ⟨b,t2,rfl,_,h2⟩:=i64_fit h1
  obtain ⟨c,t3,rfl,_,h3⟩:=i64_fit h2
  obtain rfl:=fits_nil h3
  obtain ⟨l,rfl⟩:=lks_fit (es:=r) fun x hx=>h x (List.mem_cons_of_mem _ hx)
  exact ⟨⟨a,b,c⟩::l,rfl⟩
theorem lkl_fit {r:List CT} {ds:List Data} (h:Fits' (.sl true [.int .i64,.int .i64,.int .i64]::r) ds):∃ (l:List Lk) (t:List Data),ds=.slice 3 (lks l)::t∧Fits' r t:=by
 simp only [Fits'] at h
 obtain ⟨d,t,rfl,hd,ht⟩:=h
 simp only [Fit] at hd
 obtain ⟨es,rfl,he⟩:=hd
 obtain ⟨l,rfl⟩:=lks_fit (es:=es) fun e h=>by
  obtain ⟨ds,h1,h2⟩:=he e h
  exact ⟨ds,h1,by simpa only [Fits'] using h2⟩
 exact ⟨l,t,rfl,ht⟩
theorem ms_fit {ds:List Data} (h:Fits' [.sl false [.str],.sl true [.int .i64,.int .i64,.int .i64]] ds):∃ m:Ms,Data.agg ds=m.d:=by
 obtain ⟨a,t1,rfl,h1⟩:=strl_fit h
 obtain ⟨b,t2,rfl,h2⟩:=lkl_fit h1
 obtain rfl:=fits_nil h2
 exact ⟨⟨a,b⟩,rfl⟩
theorem wgts_strs:∀ (l:List (List UInt8)),l.length≤wgts (strs l)
 | []=>Nat.zero_le _
 | s::r=>by
  have h:=wgts_strs r
  have e:wgts (strs (s::r))=(s.length+1)+wgts (strs r):=rfl
  rw [e]; simp only [List.length_cons]; omega
theorem wgts_lks:∀ (l:List Lk),l.length≤wgts (lks l)
 | []=>Nat.zero_le _
 | x::r=>by
  have h:=wgts_lks r
  have e:wgts (lks (x::r))=(1+(1+(1+0)))+wgts (lks r):=rfl
  rw [e]; simp only [List.length_cons]; omega
theorem wgt_ms (m:Ms):m.ns.length≤wgt m.d∧m.ls.length≤wgt m.d:=by
 have e:wgt m.d=(wgts (strs m.ns)+1)+((wgts (lks m.ls)+1)+0):=rfl
 have h1:=wgts_strs m.ns
 have h2:=wgts_lks m.ls
 omega
theorem u8_fit {r:List CT} {ds:List Data} (h:Fits' (.int .u8::r) ds):∃ (n:Int) (t:List Data),ds=.int .u8 n::t∧(0≤n∧n≤255)∧Fits' r t:=by
 obtain ⟨n,t,rfl,hn,ht⟩:=int_fit h
 refine ⟨n,t,rfl,?_,ht⟩
 simp [Lit.wf] at hn
 have h1:IntKind.u8.min=0:=rfl
 have h2:IntKind.u8.max=255:=rfl
 omega
theorem u8ps_fit:∀ {es:List Data},(∀ e∈es,∃ ds,e=.agg ds∧Fits' [.int .u8,.int .u8] ds)→∃ l:List (Int × Int),es=u8ps l∧∀ p∈l,(0≤p.1∧p.1≤255)∧(0≤p.2∧p.2≤255)
 | [],_=>⟨[],rfl,fun _ h=>by cases h⟩
 | e::r,h=>by
  obtain ⟨ds,rfl,hd⟩:=h e List.mem_cons_self
  obtain ⟨a,t1,rfl,ha,h1⟩:=u8_fit hd
  obtain ⟨b,t2,rfl,hb,h2⟩:=u8_fit h1
  obtain rfl:=fits_nil h2
  obtain ⟨l,rfl,hl⟩:=u8ps_fit (es:=r) fun x hx=>h x (List.mem_cons_of_mem _ hx)
  exact ⟨(a,b)::l,rfl,fun p hp=>by
   rcases List.mem_cons.1 hp with rfl | hp
   ·exact ⟨ha,hb⟩
   ·exact hl p hp⟩
theorem u8pl_fit {r:List CT} {ds:List Data} (h:Fits' (.sl true [.int .u8,.int .u8]::r) ds):∃ (l:List (Int × Int)) (t:List Data),ds=.slice 2 (u8ps l)::t∧(∀ p∈l,(0≤p.1∧p.1≤255)∧(0≤p.2∧p.2≤255))∧Fits' r t:=by
 simp only [Fits'] at h
 obtain ⟨d,t,rfl,hd,ht⟩:=h
 simp only [Fit] at hd
 obtain ⟨es,rfl,he⟩:=hd
 obtain ⟨l,rfl,hl⟩:=u8ps_fit (es:=es) fun e h=>by
  obtain ⟨ds,h1,h2⟩:=he e h
  exact ⟨ds,h1,by simpa only [Fits'] using h2⟩
 exact ⟨l,t,rfl,hl,ht⟩
theorem wgts_u8ps:∀ (l:List (Int × Int)),l.length≤wgts (u8ps l)
 | []=>Nat.zero_le _
 | x::r=>by
  have h:=wgts_u8ps r
  have e:wgts (u8ps (x::r))=(1+(1+0))+wgts (u8ps r):=rfl
  rw [e]; simp only [List.length_cons]; omega
end Vc
