import Derived.Test.YtkghjijnlnnfkaaGreatDoorG12
import Derived.Test.YtkghjijnlnnfkaaGreatDoorG07
import Derived.Test.YtkghjijnlnnfkaaGreatDoorG17
set_option linter.unusedSectionVars false
set_option linter.unusedVariables false
set_option linter.unusedSimpArgs false
namespace Vc
open Go Go.Proofs
theorem int_fit {k:IntKind} {r:List CT} {ds:List Data} (h:Fits' (.int k::r) ds):∃ n t,ds=.int k n::t∧(Lit.int k n).wf=true∧Fits' r t:=by
 simp only [Fits',Fit] at h
 obtain ⟨d,t,rfl,⟨n,rfl,hn⟩,ht⟩:=h
 exact ⟨n,t,rfl,hn,ht⟩
theorem i64_fit {r:List CT} {ds:List Data} (h:Fits' (.int .i64::r) ds):∃ (n:Int) (t:List Data),ds=.int .i64 n::t∧(-9223372036854775808≤n∧n≤9223372036854775807)∧Fits' r t:=by
 obtain ⟨n,t,rfl,hn,ht⟩:=int_fit h
 refine ⟨n,t,rfl,?_,ht⟩
 simp [Lit.wf] at hn
 have h1:IntKind.i64.min=-9223372036854775808:=rfl
 have h2:IntKind.i64.max=9223372036854775807:=rfl
 omega
theorem str_fit {r:List CT} {ds:List Data} (h:Fits' (.str::r) ds):∃ b t,ds=.str b::t∧Fits' r t:=by
 simp only [Fits',Fit] at h
 obtain ⟨d,t,rfl,⟨b,rfl⟩,ht⟩:=h
 exact ⟨b,t,rfl,ht⟩
theorem fits_nil {ds:List Vc.Data} (h:Fits' [] ds):ds=[]:=by simpa only [Fits'] using h
theorem bool_fit {r:List CT} {ds:List Data} (h:Fits' (.bool::r) ds):∃ b t,ds=.bool b::t∧Fits' r t:=by
 simp only [Fits',Fit] at h
 obtain ⟨d,t,rfl,⟨b,rfl⟩,ht⟩:=h
 exact ⟨b,t,rfl,ht⟩
end Vc
namespace Vc
open Go Go.Proofs
theorem ods_fit:∀ {es:List Data},(∀ e∈es,∃ ds,e=.agg ds∧Fits' [.str,.int .i64] ds)→∃ l:List Od,es=ods l
 | [],_=>⟨[],rfl⟩
 | e::r,h=>by
  obtain ⟨ds,rfl,hd⟩:=h e List.mem_cons_self
  obtain ⟨a,t1,rfl,h1⟩:=str_fit hd
  obtain ⟨b,t2,rfl,_,h2⟩:=i64_fit h1
  obtain rfl:=fits_nil h2
  obtain ⟨l,rfl⟩:=ods_fit (es:=r) fun x hx=>h x (List.mem_cons_of_mem _ hx)
  exact ⟨⟨a,b⟩::l,rfl⟩
theorem odl_fit {r:List CT} {ds:List Data} (h:Fits' (.sl true [.str,.int .i64]::r) ds):∃ (l:List Od) (t:List Data),ds=.slice 2 (ods l)::t∧Fits' r t:=by
 simp only [Fits'] at h
 obtain ⟨d,t,rfl,hd,ht⟩:=h
 simp only [Fit] at hd
 obtain ⟨es,rfl,he⟩:=hd
 obtain ⟨l,rfl⟩:=ods_fit (es:=es) fun e h=>by
  obtain ⟨ds,h1,h2⟩:=he e h
  exact ⟨ds,h1,by simpa only [Fits'] using h2⟩
 exact ⟨l,t,rfl,ht⟩
theorem wgts_ods:∀ (l:List Od),2 * l.length≤wgts (ods l)
 | []=>Nat.zero_le _
 | x::r=>by
  have h:=wgts_ods r
  have e:wgts (ods (x::r))=((x.o.length+1)+(1+0))+wgts (ods r):=rfl
  rw [e]; simp only [List.length_cons]; omega
theorem sw_fit {ds:List Data} (h:Fits' [.bool,.bool,.sl true [.str,.int .i64]] ds):∃ s:Sw,ds=[.bool s.on,.bool s.rd,.slice 2 (ods s.os)]:=by
 obtain ⟨a,t1,rfl,h1⟩:=bool_fit h
 obtain ⟨b,t2,rfl,h2⟩:=bool_fit h1
 obtain ⟨l,t3,rfl,h3⟩:=odl_fit h2
 obtain rfl:=fits_nil h3
 exact ⟨⟨a,b,l⟩,rfl⟩
end Vc
