import Derived.Test.YtifgdpnmgeffbaaGreatDoorG10
import Derived.Test.YtifgdpnmgeffbaaGreatDoorG07
set_option linter.unusedSectionVars false
set_option linter.unusedVariables false
set_option linter.unusedSimpArgs false
namespace Vc
open Go Go.Proofs
theorem int_fit {k:IntKind} {r:List CT} {ds:List Data} (h:Fits' (.int k::r) ds):∃ n t,ds=.int k n::t∧(Lit.int k n).wf=true∧Fits' r t:=by
 simp only [Fits',Fit] at h
 obtain ⟨d,t,rfl,⟨n,rfl,hn⟩,ht⟩:=h
 exact ⟨n,t,rfl,hn,ht⟩
theorem i64_fit {r:List CT} {ds:List Data} (h:Fits' (.int .i64::r) ds):∃ (n:Int) (t:List Data),ds=.int .i64 n::t∧(-9223372036854775808≤n∧n≤9223372036854775807)∧Fits' r t:=by
 obtain ⟨n,t,rfl,hn,ht⟩:=int_fit h
 refine ⟨n,t,rfl,?_,ht⟩
 simp [Lit.wf] at hn
 have h1:IntKind.i64.min=-9223372036854775808:=rfl
 have h2:IntKind.i64.max=9223372036854775807:=rfl
 omega
theorem fits_nil {ds:List Vc.Data} (h:Fits' [] ds):ds=[]:=by simpa only [Fits'] using h
theorem ints_fit:∀ {es:List Data},(∀ e∈es,Fits' [.int .i64] [e])→∃ l:List Int,es=ints l
 | [],_=>⟨[],rfl⟩
 | e::r,h=>by
  obtain ⟨c,t,h1,_,_⟩:=i64_fit (h e List.mem_cons_self)
  obtain ⟨b,rfl⟩:=ints_fit (es:=r) fun x hx=>h x (List.mem_cons_of_mem _ hx)
  cases h1
  exact ⟨c::b,rfl⟩
theorem intl_fit {r:List CT} {ds:List Data} (h:Fits' (.sl false [.int .i64]::r) ds):∃ (b:List Int) (t:List Data),ds=.slice 1 (ints b)::t∧Fits' r t:=by
 simp only [Fits'] at h
 obtain ⟨d,t,rfl,hd,ht⟩:=h
 simp only [Fit] at hd
 obtain ⟨es,rfl,he⟩:=hd
 obtain ⟨b,rfl⟩:=ints_fit (es:=es) fun e h=>by
  have:=he e h
  simpa [Fits',Fit] using this
 exact ⟨b,t,rfl,ht⟩
theorem wgts_ints:∀ (l:List Int),l.length≤wgts (ints l)
 | []=>Nat.zero_le _
 | x::r=>by
  have h:=wgts_ints r
  have e:wgts (ints (x::r))=1+wgts (ints r):=rfl
  rw [e]; simp only [List.length_cons]; omega
theorem iss_fit:∀ {es:List Vc.Data},(∀ e∈es,Fits' [.sl false [.int .i64]] [e])→∃ l:List (List Int),es=iss l
 | [],_=>⟨[],rfl⟩
 | e::r,h=>by
  obtain ⟨c,t,h1,_⟩:=intl_fit (h e List.mem_cons_self)
  obtain ⟨b,rfl⟩:=iss_fit (es:=r) fun x hx=>h x (List.mem_cons_of_mem _ hx)
  cases h1
  exact ⟨c::b,rfl⟩
theorem issl_fit {r:List CT} {ds:List Vc.Data} (h:Fits' (.sl false [.sl false [.int .i64]]::r) ds):∃ (b:List (List Int)) (t:List Vc.Data),ds=.slice 1 (iss b)::t∧Fits' r t:=by
 simp only [Fits'] at h
 obtain ⟨d,t,rfl,hd,ht⟩:=h
 simp only [Fit] at hd
 obtain ⟨es,rfl,he⟩:=hd
 obtain ⟨b,rfl⟩:=iss_fit (es:=es) fun e h=>by
  have:=he e h
  simpa [Fits',Fit] using this
 exact ⟨b,t,rfl,ht⟩
theorem wgts_iss:∀ (l:List (List Int)),l.length≤wgts (iss l)∧∀ o∈l,o.length≤wgts (iss l)
 | []=>⟨Nat.zero_le _,fun _ h=>(by cases h)⟩
 | x::r=>by
  have h:=wgts_iss r
  have e:wgts (iss (x::r))=(wgts (ints x)+1)+wgts (iss r):=rfl
  have hx:=wgts_ints x
  rw [e]
  refine ⟨by simp only [List.length_cons]; omega,fun o ho=>?_⟩
  rcases List.mem_cons.1 ho with rfl | ho
  ·omega
  ·have:=h.2 o ho; omega
end Vc
