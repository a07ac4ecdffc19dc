import Derived.Test.YtkghjijnlnnfkaaGreatDoorG12
import Derived.Test.YtkghjijnlnnfkaaGreatDoorG07
import Derived.Test.YtkghjijnlnnfkaaGreatDoorG16
set_option linter.unusedSectionVars false
set_option linter.unusedVariables false
set_option linter.unusedSimpArgs false
namespace Vc
open Go Go.Proofs
theorem int_fit {k:IntKind} {r:List CT} {ds:List Data} (h:Fits' (.int k::r) ds):∃ n t,ds=.int k n::t∧(Lit.int k n).wf=true∧Fits' r t:=by
 simp only [Fits',Fit] at h
 obtain ⟨d,t,rfl,⟨n,rfl,hn⟩,ht⟩:=h
 exact ⟨n,t,rfl,hn,ht⟩
theorem i64_fit {r:List CT} {ds:List Data} (h:Fits' (.int .i64::r) ds):∃ (n:Int) (t:List Data),ds=.int .i64 n::t∧(-9223372036854775808≤n∧n≤9223372036854775807)∧Fits' r t:=by
 obtain ⟨n,t,rfl,hn,ht⟩:=int_fit h
 refine ⟨n,t,rfl,?_,ht⟩
 simp [Lit.wf] at hn
 have h1:IntKind.i64.min=-9223372036854775808:=rfl
 have h2:IntKind.i64.max=9223372036854775807:=rfl
 omega
theorem fits_nil {ds:List Vc.Data} (h:Fits' [] ds):ds=[]:=by simpa only [Fits'] using h
theorem ints_fit:∀ {es:List Data},(∀ e∈es,Fits' [.int .i64] [e])→∃ l:List Int,es=ints l
 | [],_=>⟨[],rfl⟩
 | e::r,h=>by
  obtain ⟨c,t,h1,_,_⟩:=i64_fit (h e List.mem_cons_self)
  obtain ⟨b,rfl⟩:=ints_fit (es:=r) fun x hx=>h x (List.mem_cons_of_mem _ hx)
  cases h1
  exact ⟨c::b,rfl⟩
theorem intl_fit {r:List CT} {ds:List Data} (h:Fits' (.sl false [.int .i64]::r) ds):∃ (b:List Int) (t:List Data),ds=.slice 1 (ints b)::t∧Fits' r t:=by
 simp only [Fits'] at h
 obtain ⟨d,t,rfl,hd,ht⟩:=h
 simp only [Fit] at hd
 obtain ⟨es,rfl,he⟩:=hd
 obtain ⟨b,rfl⟩:=ints_fit (es:=es) fun e h=>by
  have:=he e h
  simpa [Fits',Fit] using this
 exact ⟨b,t,rfl,ht⟩
theorem wgts_ints:∀ (l:List Int),l.length≤wgts (ints l)
 | []=>Nat.zero_le _
 | x::r=>by
  have h:=wgts_ints r
  have e:wgts (ints (x::r))=1+wgts (ints r):=rfl
  rw [e]; simp only [List.length_cons]; omega
theorem bool_fit {r:List CT} {ds:List Data} (h:Fits' (.bool::r) ds):∃ b t,ds=.bool b::t∧Fits' r t:=by
 simp only [Fits',Fit] at h
 obtain ⟨d,t,rfl,⟨b,rfl⟩,ht⟩:=h
 exact ⟨b,t,rfl,ht⟩
theorem key_fit {r : List CT} {ds : List Data} (h : Fits' (.int .u8 :: .int .u8 :: .int .u8 :: .int .u8 :: .int .u8 :: .int .u8 :: .int .u8 :: .int .u8 :: r) ds) :
  ∃ (k:Ky) (t:List Data),ds=.int .u8 k.a::.int .u8 k.b::.int .u8 k.c::.int .u8 k.d::.int .u8 k.e::.int .u8 k.f::.int .u8 k.g::.int .u8 k.h::t∧Fits' r t:=by
 obtain ⟨a,t1,rfl,_,q0⟩:=int_fit h
 obtain ⟨b,t2,rfl,_,q1⟩:=int_fit q0
 obtain ⟨c,t3,rfl,_,q2⟩:=int_fit q1
 obtain ⟨d,t4,rfl,_,q3⟩:=int_fit q2
 obtain ⟨e,t5,rfl,_,q4⟩:=int_fit q3
 obtain ⟨f,t6,rfl,_,q5⟩:=int_fit q4
 obtain ⟨g,t7,rfl,_,q6⟩:=int_fit q5
 obtain ⟨h1,t8,rfl,_,q7⟩:=int_fit q6
 exact ⟨⟨a,b,c,d,e,f,g,h1⟩,t8,rfl,q7⟩
theorem acc_fit {ds : List Data} (h : Fits' [.int .i64, .int .i64, .int .i64, .int .i64, .int .u8, .int .u8, .int .u8, .int .u8, .int .u8, .int .u8, .int .u8, .int .u8, .int .u8, .int .u8, .int .u8, .int .u8, .int .u8, .int .u8, .int .u8, .int .u8, .bool, .sl false [.int .i64]] ds) :
  ∃ a:Ac,ds=[.int .i64 a.b,.int .i64 a.d,.int .i64 a.s,.int .i64 a.e,.int .u8 a.k.a,.int .u8 a.k.b,.int .u8 a.k.c,.int .u8 a.k.d,.int .u8 a.k.e,.int .u8 a.k.f,.int .u8 a.k.g,.int .u8 a.k.h,
   .int .u8 a.n.a,.int .u8 a.n.b,.int .u8 a.n.c,.int .u8 a.n.d,.int .u8 a.n.e,.int .u8 a.n.f,.int .u8 a.n.g,.int .u8 a.n.h,.bool a.c,.slice 1 (ints a.u)]:=by
 obtain ⟨b,t1,rfl,_,q0⟩:=i64_fit h
 obtain ⟨d,t2,rfl,_,q1⟩:=i64_fit q0
 obtain ⟨s,t3,rfl,_,q2⟩:=i64_fit q1
 obtain ⟨e,t4,rfl,_,q3⟩:=i64_fit q2
 obtain ⟨k,t5,rfl,q4⟩:=key_fit q3
 obtain ⟨n,t6,rfl,q5⟩:=key_fit q4
 obtain ⟨c,t7,rfl,q6⟩:=bool_fit q5
 obtain ⟨u,t8,rfl,q7⟩:=intl_fit q6
 obtain rfl:=fits_nil q7
 exact ⟨⟨b,d,s,e,k,n,c,u⟩,rfl⟩
end Vc
namespace Vc
open Go Go.Proofs
theorem hrs_fit:∀ {es:List Data},(∀ e∈es,∃ ds,e=.agg ds∧Fits' [.bool,.bool,.bool,.bool,.bool,.bool,.bool,.int .i64,.int .i64] ds)→∃ l:List Hr,es=hrs l
 | [],_=>⟨[],rfl⟩
 | e::r,h=>by
  obtain ⟨ds,rfl,hd⟩:=h e List.mem_cons_self
  obtain ⟨d0,t0,rfl,h0⟩:=bool_fit hd
  obtain ⟨d1,t1,rfl,h1⟩:=bool_fit h0
  obtain ⟨d2,t2,rfl,h2⟩:=bool_fit h1
  obtain ⟨d3,t3,rfl,h3⟩:=bool_fit h2
  obtain ⟨d4,t4,rfl,h4⟩:=bool_fit h3
  obtain ⟨d5,t5,rfl,h5⟩:=bool_fit h4
  obtain ⟨d6,t6,rfl,h6⟩:=bool_fit h5
  obtain ⟨f,t7,rfl,_,h7⟩:=i64_fit h6
  obtain ⟨t,t8,rfl,_,h8⟩:=i64_fit h7
  obtain rfl:=fits_nil h8
  obtain ⟨l,rfl⟩:=hrs_fit (es:=r) fun x hx=>h x (List.mem_cons_of_mem _ hx)
  exact ⟨⟨d0,d1,d2,d3,d4,d5,d6,f,t⟩::l,rfl⟩
theorem hrl_fit {r:List CT} {ds:List Data} (h:Fits' (.sl true [.bool,.bool,.bool,.bool,.bool,.bool,.bool,.int .i64,.int .i64]::r) ds):∃ (l:List Hr) (t:List Data),ds=.slice 9 (hrs l)::t∧Fits' r t:=by
 simp only [Fits'] at h
 obtain ⟨d,t,rfl,hd,ht⟩:=h
 simp only [Fit] at hd
 obtain ⟨es,rfl,he⟩:=hd
 obtain ⟨l,rfl⟩:=hrs_fit (es:=es) fun e h=>by
  obtain ⟨ds,h1,h2⟩:=he e h
  exact ⟨ds,h1,by simpa only [Fits'] using h2⟩
 exact ⟨l,t,rfl,ht⟩
theorem wgts_hrs:∀ (l:List Hr),l.length≤wgts (hrs l)
 | []=>Nat.zero_le _
 | x::r=>by
  have h:=wgts_hrs r
  have e:wgts (hrs (x::r))=(1+(1+(1+(1+(1+(1+(1+(1+(1+0)))))))))+wgts (hrs r):=rfl
  rw [e]; simp only [List.length_cons]; omega
end Vc
namespace Vc
open Go Go.Proofs
theorem u32_fit {r:List CT} {ds:List Data} (h:Fits' (.int .u32::r) ds):∃ (n:Int) (t:List Data),ds=.int .u32 n::t∧(0≤n∧n≤4294967295)∧Fits' r t:=by
 obtain ⟨n,t,rfl,hn,ht⟩:=int_fit h
 refine ⟨n,t,rfl,?_,ht⟩
 simp [Lit.wf] at hn
 have h1:IntKind.u32.min=0:=rfl
 have h2:IntKind.u32.max=4294967295:=rfl
 omega
end Vc
