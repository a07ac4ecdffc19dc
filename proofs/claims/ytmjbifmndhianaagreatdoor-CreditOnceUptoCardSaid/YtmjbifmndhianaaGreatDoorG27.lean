import Derived.Test.YtmjbifmndhianaaGreatDoorG12
import Derived.Test.YtmjbifmndhianaaGreatDoorG07
import Derived.Test.YtmjbifmndhianaaGreatDoorG15
import Derived.Test.YtmjbifmndhianaaGreatDoorG19
set_option linter.unusedSectionVars false
set_option linter.unusedVariables false
set_option linter.unusedSimpArgs false
namespace Vc
open Go Go.Proofs
theorem int_fit {k:IntKind} {r:List CT} {ds:List Data} (h:Fits' (.int k::r) ds):∃ n t,ds=.int k n::t∧(Lit.int k n).wf=true∧Fits' r t:=by
 simp only [Fits',Fit] at h
 obtain ⟨d,t,rfl,⟨n,rfl,hn⟩,ht⟩:=h
 exact ⟨n,t,rfl,hn,ht⟩
theorem i64_fit {r:List CT} {ds:List Data} (h:Fits' (.int .i64::r) ds):∃ (n:Int) (t:List Data),ds=.int .i64 n::t∧(-9223372036854775808≤n∧n≤9223372036854775807)∧Fits' r t:=by
 obtain ⟨n,t,rfl,hn,ht⟩:=int_fit h
 refine ⟨n,t,rfl,?_,ht⟩
 simp [Lit.wf] at hn
 have h1:IntKind.i64.min=-9223372036854775808:=rfl
 have h2:IntKind.i64.max=9223372036854775807:=rfl
 omega
theorem fits_nil {ds:List Vc.Data} (h:Fits' [] ds):ds=[]:=by simpa only [Fits'] using h
theorem ints_fit:∀ {es:List Data},(∀ e∈es,Fits' [.int .i64] [e])→∃ l:List Int,es=ints l
 | [],_=>⟨[],rfl⟩
 | e::r,h=>by
  obtain ⟨c,t,h1,_,_⟩:=i64_fit (h e List.mem_cons_self)
  obtain ⟨b,rfl⟩:=ints_fit (es:=r) fun x hx=>h x (List.mem_cons_of_mem _ hx)
  cases h1
  exact ⟨c::b,rfl⟩
theorem intl_fit {r:List CT} {ds:List Data} (h:Fits' (.sl false [.int .i64]::r) ds):∃ (b:List Int) (t:List Data),ds=.slice 1 (ints b)::t∧Fits' r t:=by
 simp only [Fits'] at h
 obtain ⟨d,t,rfl,hd,ht⟩:=h
 simp only [Fit] at hd
 obtain ⟨es,rfl,he⟩:=hd
 obtain ⟨b,rfl⟩:=ints_fit (es:=es) fun e h=>by
  have:=he e h
  simpa [Fits',Fit] using this
 exact ⟨b,t,rfl,ht⟩
theorem wgts_ints:∀ (l:List Int),l.length≤wgts (ints l)
 | []=>Nat.zero_le _
 | x::r=>by
  have h:=wgts_ints r
  have e:wgts (ints (x::r))=1+wgts (ints r):=rfl
  rw [e]; simp only [List.length_cons]; omega
theorem bool_fit {r:List CT} {ds:List Data} (h:Fits' (.bool::r) ds):∃ b t,ds=.bool b::t∧Fits' r t:=by
 simp only [Fits',Fit] at h
 obtain ⟨d,t,rfl,⟨b,rfl⟩,ht⟩:=h
 exact ⟨b,t,rfl,ht⟩
end Vc
namespace Vc
open Go Go.Proofs
theorem u16_fit {r:List CT} {ds:List Data} (h:Fits' (.int .u16::r) ds):∃ (n:Int) (t:List Data),ds=.int .u16 n::t∧(0≤n∧n≤65535)∧Fits' r t:=by
 obtain ⟨n,t,rfl,hn,ht⟩:=int_fit h
 refine ⟨n,t,rfl,?_,ht⟩
 simp [Lit.wf] at hn
 have h1:IntKind.u16.min=0:=rfl
 have h2:IntKind.u16.max=65535:=rfl
 omega
end Vc
namespace Vc
open Go Go.Proofs
theorem u8_fit {r:List CT} {ds:List Data} (h:Fits' (.int .u8::r) ds):∃ (n:Int) (t:List Data),ds=.int .u8 n::t∧(0≤n∧n≤255)∧Fits' r t:=by
 obtain ⟨n,t,rfl,hn,ht⟩:=int_fit h
 refine ⟨n,t,rfl,?_,ht⟩
 simp [Lit.wf] at hn
 have h1:IntKind.u8.min=0:=rfl
 have h2:IntKind.u8.max=255:=rfl
 omega
theorem key_fit_ok {r : List CT} {ds : List Data} (h : Fits' (.int .u8 :: .int .u8 :: .int .u8 :: .int .u8 :: .int .u8 :: .int .u8 :: .int .u8 :: .int .u8 :: r) ds) :
  ∃ (k:Ky) (t:List Data),ds=.int .u8 k.a::.int .u8 k.b::.int .u8 k.c::.int .u8 k.d::.int .u8 k.e::.int .u8 k.f::.int .u8 k.g::.int .u8 k.h::t∧k.ok∧Fits' r t:=by
 obtain ⟨a0,t0,rfl,h0,q0⟩:=u8_fit h
 obtain ⟨a1,t1,rfl,h1,q1⟩:=u8_fit q0
 obtain ⟨a2,t2,rfl,h2,q2⟩:=u8_fit q1
 obtain ⟨a3,t3,rfl,h3,q3⟩:=u8_fit q2
 obtain ⟨a4,t4,rfl,h4,q4⟩:=u8_fit q3
 obtain ⟨a5,t5,rfl,h5,q5⟩:=u8_fit q4
 obtain ⟨a6,t6,rfl,h6,q6⟩:=u8_fit q5
 obtain ⟨a7,t7,rfl,h7,q7⟩:=u8_fit q6
 exact ⟨⟨a0,a1,a2,a3,a4,a5,a6,a7⟩,t7,rfl,⟨h0,h1,h2,h3,h4,h5,h6,h7⟩,q7⟩
end Vc
namespace Vc
open Go Go.Proofs
theorem acc_fit_ok {ds : List Data} (h : Fits' [.int .i64, .int .i64, .int .i64, .int .i64, .int .u8, .int .u8, .int .u8, .int .u8, .int .u8, .int .u8, .int .u8, .int .u8, .int .u8, .int .u8, .int .u8, .int .u8, .int .u8, .int .u8, .int .u8, .int .u8, .bool, .sl false [.int .i64]] ds) :
  ∃ a:Ac,(a.k.ok∧a.n.ok)∧ds=[.int .i64 a.b,.int .i64 a.d,.int .i64 a.s,.int .i64 a.e,.int .u8 a.k.a,.int .u8 a.k.b,.int .u8 a.k.c,.int .u8 a.k.d,.int .u8 a.k.e,.int .u8 a.k.f,.int .u8 a.k.g,.int .u8 a.k.h,
   .int .u8 a.n.a,.int .u8 a.n.b,.int .u8 a.n.c,.int .u8 a.n.d,.int .u8 a.n.e,.int .u8 a.n.f,.int .u8 a.n.g,.int .u8 a.n.h,.bool a.c,.slice 1 (ints a.u)]:=by
 obtain ⟨b,t1,rfl,_,q0⟩:=i64_fit h
 obtain ⟨d,t2,rfl,_,q1⟩:=i64_fit q0
 obtain ⟨s,t3,rfl,_,q2⟩:=i64_fit q1
 obtain ⟨e,t4,rfl,_,q3⟩:=i64_fit q2
 obtain ⟨k,t5,rfl,hk,q4⟩:=key_fit_ok q3
 obtain ⟨n,t6,rfl,hn,q5⟩:=key_fit_ok q4
 obtain ⟨c,t7,rfl,q6⟩:=bool_fit q5
 obtain ⟨u,t8,rfl,q7⟩:=intl_fit q6
 obtain rfl:=fits_nil q7
 exact ⟨⟨b,d,s,e,k,n,c,u⟩,⟨hk,hn⟩,rfl⟩
end Vc
namespace Vc
open Go
theorem seal_step {j x x' b:Int} (hj:0≤j∧j≤7) (hx:0≤x∧x≤255) (hx':0≤x'∧x'≤255) (h:((2 * j+3) * x+b+j) % 256=((2 * j+3) * x'+b+j) % 256):x=x':=by
 rcases (show j=0∨j=1∨j=2∨j=3∨j=4∨j=5∨j=6∨j=7 by omega) with rfl | rfl | rfl | rfl | rfl | rfl | rfl | rfl <;> omega
theorem byt {b:Int} (h:0≤b∧b≤255):IntKind.wrap .i64 b=b:=IntWalk.i64_in _ (by omega)
theorem sealJ_x:∀ (s:List Int) {j x x':Int},(0≤j∧j≤7)→(0≤x∧x≤255)→(0≤x'∧x'≤255)→sealJ j x s=sealJ j x' s→x=x'
 | [],_,_,_,_,_,_,h=>h
 | b::r,j,x,x',hj,hx,hx',h=>by
  rw [sealJ,sealJ] at h
  exact seal_step hj hx hx' (sealJ_x r hj (tmod_b' _) (tmod_b' _) h)
where tmod_b' (n:Int):0≤n % 256∧n % 256≤255:=by omega
theorem sealJ_app (j:Int):∀ (a b:List Int) (x:Int),sealJ j x (a++b)=sealJ j (sealJ j x a) b
 | [],_,_=>rfl
 | c::a,b,x=>by
  show sealJ j _ (a++b)=sealJ j (sealJ j _ a) b
  rw [sealJ_app j a b]
theorem sealJ_b1 {j x:Int} (hj:0≤j∧j≤7) {p r:List Int} {b b':Int} (hb:0≤b∧b≤255) (hb':0≤b'∧b'≤255) (h:sealJ j x (p++b::r)=sealJ j x (p++b'::r)):b=b':=by
 rw [sealJ_app,sealJ_app,sealJ,sealJ] at h
 have h:=sealJ_x r hj (by omega) (by omega) h
 rw [byt hb,byt hb'] at h
 omega
theorem wrap_u8b {b:Int} (h:0≤b∧b≤255):IntKind.wrap .u8 b=b:=by
 show b % 256=b
 omega
theorem sk_b {j x:Int} {s:List Int} (hj:0≤j∧j≤7) (hx:0≤x∧x≤255) (hs:∀ b∈s,0≤b∧b≤255):sk j x s=sealJ j x s:=by
 unfold sk
 rw [byt hx]
 exact wrap_u8b (sealJ_b s j x hj hx hs)
end Vc
