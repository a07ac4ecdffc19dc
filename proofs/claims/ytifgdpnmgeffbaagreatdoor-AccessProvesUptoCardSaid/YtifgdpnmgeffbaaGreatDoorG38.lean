import Derived.Test.YtifgdpnmgeffbaaGreatDoorG10
import Derived.Test.YtifgdpnmgeffbaaGreatDoorG07
import Derived.Test.YtifgdpnmgeffbaaGreatDoorG11
set_option linter.unusedSectionVars false
set_option linter.unusedVariables false
set_option linter.unusedSimpArgs false
namespace Vc
open Go Go.Proofs
theorem int_fit {k:IntKind} {r:List CT} {ds:List Data} (h:Fits' (.int k::r) ds):∃ n t,ds=.int k n::t∧(Lit.int k n).wf=true∧Fits' r t:=by
 simp only [Fits',Fit] at h
 obtain ⟨d,t,rfl,⟨n,rfl,hn⟩,ht⟩:=h
 exact ⟨n,t,rfl,hn,ht⟩
theorem i64_fit {r:List CT} {ds:List Data} (h:Fits' (.int .i64::r) ds):∃ (n:Int) (t:List Data),ds=.int .i64 n::t∧(-9223372036854775808≤n∧n≤9223372036854775807)∧Fits' r t:=by
 obtain ⟨n,t,rfl,hn,ht⟩:=int_fit h
 refine ⟨n,t,rfl,?_,ht⟩
 simp [Lit.wf] at hn
 have h1:IntKind.i64.min=-9223372036854775808:=rfl
 have h2:IntKind.i64.max=9223372036854775807:=rfl
 omega
theorem str_fit {r:List CT} {ds:List Data} (h:Fits' (.str::r) ds):∃ b t,ds=.str b::t∧Fits' r t:=by
 simp only [Fits',Fit] at h
 obtain ⟨d,t,rfl,⟨b,rfl⟩,ht⟩:=h
 exact ⟨b,t,rfl,ht⟩
theorem fits_nil {ds:List Vc.Data} (h:Fits' [] ds):ds=[]:=by simpa only [Fits'] using h
end Vc
namespace Vc
open Go Go.Proofs
theorem obs_fit:∀ {es:List Data},(∀ e∈es,∃ ds,e=.agg ds∧Fits' [.str,.str] ds)→∃ l:List Ob,es=obs l
 | [],_=>⟨[],rfl⟩
 | e::r,h=>by
  obtain ⟨ds,rfl,hd⟩:=h e List.mem_cons_self
  obtain ⟨s,t,rfl,h1⟩:=str_fit hd
  obtain ⟨n,t2,rfl,h2⟩:=str_fit h1
  obtain rfl:=fits_nil h2
  obtain ⟨l,rfl⟩:=obs_fit (es:=r) fun x hx=>h x (List.mem_cons_of_mem _ hx)
  exact ⟨(s,n)::l,rfl⟩
theorem obsl_fit {r:List CT} {ds:List Data} (h:Fits' (.sl true [.str,.str]::r) ds):∃ (l:List Ob) (t:List Data),ds=.slice 2 (obs l)::t∧Fits' r t:=by
 simp only [Fits'] at h
 obtain ⟨d,t,rfl,hd,ht⟩:=h
 simp only [Fit] at hd
 obtain ⟨es,rfl,he⟩:=hd
 obtain ⟨l,rfl⟩:=obs_fit (es:=es) he
 exact ⟨l,t,rfl,ht⟩
theorem grs_fit:∀ {es:List Data},(∀ e∈es,∃ ds,e=.agg ds∧Fits' [.str,.str,.str,.str,.int .i64,.int .i64] ds)→∃ l:List Gr,es=grs l
 | [],_=>⟨[],rfl⟩
 | e::r,h=>by
  obtain ⟨ds,rfl,hd⟩:=h e List.mem_cons_self
  obtain ⟨a,t1,rfl,h1⟩:=str_fit hd
  obtain ⟨b,t2,rfl,h2⟩:=str_fit h1
  obtain ⟨c,t3,rfl,h3⟩:=str_fit h2
  obtain ⟨d,t4,rfl,h4⟩:=str_fit h3
  obtain ⟨m,t5,rfl,_,h5⟩:=i64_fit h4
  obtain ⟨n,t6,rfl,_,h6⟩:=i64_fit h5
  obtain rfl:=fits_nil h6
  obtain ⟨l,rfl⟩:=grs_fit (es:=r) fun x hx=>h x (List.mem_cons_of_mem _ hx)
  exact ⟨⟨a,b,c,d,m,n⟩::l,rfl⟩
theorem grsl_fit {r:List CT} {ds:List Data} (h:Fits' (.sl true [.str,.str,.str,.str,.int .i64,.int .i64]::r) ds):∃ (l:List Gr) (t:List Data),ds=.slice 6 (grs l)::t∧Fits' r t:=by
 simp only [Fits'] at h
 obtain ⟨d,t,rfl,hd,ht⟩:=h
 simp only [Fit] at hd
 obtain ⟨es,rfl,he⟩:=hd
 obtain ⟨l,rfl⟩:=grs_fit (es:=es) he
 exact ⟨l,t,rfl,ht⟩
theorem wgts_obs:∀ (l:List Ob),l.length≤wgts (obs l)
 | []=>Nat.zero_le _
 | x::r=>by
  have h:=wgts_obs r
  have e:wgts (obs (x::r))=((x.1.length+1)+((x.2.length+1)+0))+wgts (obs r):=rfl
  rw [e]; simp only [List.length_cons]; omega
theorem wgts_grs:∀ (l:List Gr),l.length≤wgts (grs l)
 | []=>Nat.zero_le _
 | x::r=>by
  have h:=wgts_grs r
  have e:wgts (grs (x::r))=((x.fr.length+1)+((x.to.length+1)+((x.ri.length+1)+((x.ob.length+1)+(1+(1+0))))))+wgts (grs r):=rfl
  rw [e]; simp only [List.length_cons]; omega
end Vc
