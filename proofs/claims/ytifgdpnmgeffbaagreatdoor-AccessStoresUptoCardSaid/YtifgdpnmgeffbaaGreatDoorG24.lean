import Derived.Test.YtifgdpnmgeffbaaGreatDoorG10
import Derived.Test.YtifgdpnmgeffbaaGreatDoorG07
set_option linter.unusedSectionVars false
set_option linter.unusedVariables false
set_option linter.unusedSimpArgs false
namespace Vc
open Go Go.Proofs
theorem int_fit {k:IntKind} {r:List CT} {ds:List Data} (h:Fits' (.int k::r) ds):∃ n t,ds=.int k n::t∧(Lit.int k n).wf=true∧Fits' r t:=by
 simp only [Fits',Fit] at h
 obtain ⟨d,t,rfl,⟨n,rfl,hn⟩,ht⟩:=h
 exact ⟨n,t,rfl,hn,ht⟩
theorem i64_fit {r:List CT} {ds:List Data} (h:Fits' (.int .i64::r) ds):∃ (n:Int) (t:List Data),ds=.int .i64 n::t∧(-9223372036854775808≤n∧n≤9223372036854775807)∧Fits' r t:=by
 obtain ⟨n,t,rfl,hn,ht⟩:=int_fit h
 refine ⟨n,t,rfl,?_,ht⟩
 simp [Lit.wf] at hn
 have h1:IntKind.i64.min=-9223372036854775808:=rfl
 have h2:IntKind.i64.max=9223372036854775807:=rfl
 omega
theorem fits_nil {ds:List Vc.Data} (h:Fits' [] ds):ds=[]:=by simpa only [Fits'] using h
end Vc
namespace Vc
open Go Go.Proofs
theorem u8_fit {r:List CT} {ds:List Data} (h:Fits' (.int .u8::r) ds):∃ (c:UInt8) (t:List Data),ds=byt c::t∧Fits' r t:=by
 obtain ⟨n,t,rfl,hn,ht⟩:=int_fit h
 have hr:0≤n∧n≤255:=by
  simp [Lit.wf] at hn
  have h1:IntKind.u8.min=0:=rfl
  have h2:IntKind.u8.max=255:=rfl
  omega
 refine ⟨UInt8.ofNat n.toNat,t,?_,ht⟩
 unfold byt
 congr 2
 rw [UInt8.toNat_ofNat_of_lt' (by show n.toNat < 256; omega)]
 omega
theorem bys_fit:∀ {es:List Data},(∀ e∈es,Fits' [.int .u8] [e])→∃ b:List UInt8,es=bys b
 | [],_=>⟨[],rfl⟩
 | e::r,h=>by
  obtain ⟨c,t,h1,_⟩:=u8_fit (h e List.mem_cons_self)
  obtain ⟨b,rfl⟩:=bys_fit (es:=r) fun x hx=>h x (List.mem_cons_of_mem _ hx)
  cases h1
  exact ⟨c::b,rfl⟩
theorem bysl_fit {r:List CT} {ds:List Data} (h:Fits' (.sl false [.int .u8]::r) ds):∃ (b:List UInt8) (t:List Data),ds=.slice 1 (bys b)::t∧Fits' r t:=by
 simp only [Fits'] at h
 obtain ⟨d,t,rfl,hd,ht⟩:=h
 simp only [Fit] at hd
 obtain ⟨es,rfl,he⟩:=hd
 obtain ⟨b,rfl⟩:=bys_fit (es:=es) fun e h=>by
  have:=he e h
  simpa [Fits',Fit] using this
 exact ⟨b,t,rfl,ht⟩
theorem pss_fit:∀ {es:List Data},(∀ e∈es,Fits' [.sl false [.int .u8]] [e])→∃ l:List (List UInt8),es=pss l
 | [],_=>⟨[],rfl⟩
 | e::r,h=>by
  obtain ⟨c,t,h1,_⟩:=bysl_fit (h e List.mem_cons_self)
  obtain ⟨b,rfl⟩:=pss_fit (es:=r) fun x hx=>h x (List.mem_cons_of_mem _ hx)
  cases h1
  exact ⟨c::b,rfl⟩
theorem pssl_fit {r:List CT} {ds:List Data} (h:Fits' (.sl false [.sl false [.int .u8]]::r) ds):∃ (b:List (List UInt8)) (t:List Data),ds=.slice 1 (pss b)::t∧Fits' r t:=by
 simp only [Fits'] at h
 obtain ⟨d,t,rfl,hd,ht⟩:=h
 simp only [Fit] at hd
 obtain ⟨es,rfl,he⟩:=hd
 obtain ⟨b,rfl⟩:=pss_fit (es:=es) fun e h=>by
  have:=he e h
  simpa [Fits',Fit] using this
 exact ⟨b,t,rfl,ht⟩
theorem bool_fit {r:List CT} {ds:List Data} (h:Fits' (.bool::r) ds):∃ (b:Bool) (t:List Data),ds=.bool b::t∧Fits' r t:=by
 simp only [Fits',Fit] at h
 obtain ⟨d,t,rfl,⟨b,rfl⟩,ht⟩:=h
 exact ⟨b,t,rfl,ht⟩
theorem wgts_bys:∀ (l:List UInt8),l.length≤wgts (bys l)
 | []=>Nat.zero_le _
 | x::r=>by
  have h:=wgts_bys r
  have e:wgts (bys (x::r))=1+wgts (bys r):=rfl
  rw [e]; simp only [List.length_cons]; omega
theorem wgts_pss:∀ (l:List (List UInt8)),l.length+l.flatten.length≤wgts (pss l)
 | []=>Nat.zero_le _
 | x::r=>by
  have h:=wgts_pss r
  have e:wgts (pss (x::r))=(wgts (bys x)+1)+wgts (pss r):=rfl
  have hx:=wgts_bys x
  rw [e]
  simp only [List.length_cons,List.flatten_cons,List.length_append]
  omega
end Vc
