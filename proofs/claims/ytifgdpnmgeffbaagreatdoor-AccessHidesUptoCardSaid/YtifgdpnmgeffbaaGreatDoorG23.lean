import Derived.Test.YtifgdpnmgeffbaaGreatDoorG10
import Derived.Test.YtifgdpnmgeffbaaGreatDoorG07
import Derived.Test.YtifgdpnmgeffbaaGreatDoorG12
import Derived.Test.YtifgdpnmgeffbaaGreatDoorG20
set_option linter.unusedSectionVars false
set_option linter.unusedVariables false
set_option linter.unusedSimpArgs false
namespace Vc
open Go Go.Proofs
theorem int_fit {k:IntKind} {r:List CT} {ds:List Data} (h:Fits' (.int k::r) ds):∃ n t,ds=.int k n::t∧(Lit.int k n).wf=true∧Fits' r t:=by
 simp only [Fits',Fit] at h
 obtain ⟨d,t,rfl,⟨n,rfl,hn⟩,ht⟩:=h
 exact ⟨n,t,rfl,hn,ht⟩
theorem i64_fit {r:List CT} {ds:List Data} (h:Fits' (.int .i64::r) ds):∃ (n:Int) (t:List Data),ds=.int .i64 n::t∧(-9223372036854775808≤n∧n≤9223372036854775807)∧Fits' r t:=by
 obtain ⟨n,t,rfl,hn,ht⟩:=int_fit h
 refine ⟨n,t,rfl,?_,ht⟩
 simp [Lit.wf] at hn
 have h1:IntKind.i64.min=-9223372036854775808:=rfl
 have h2:IntKind.i64.max=9223372036854775807:=rfl
 omega
theorem fits_nil {ds:List Vc.Data} (h:Fits' [] ds):ds=[]:=by simpa only [Fits'] using h
theorem ints_fit:∀ {es:List Data},(∀ e∈es,Fits' [.int .i64] [e])→∃ l:List Int,es=ints l
 | [],_=>⟨[],rfl⟩
 | e::r,h=>by
  obtain ⟨c,t,h1,_,_⟩:=i64_fit (h e List.mem_cons_self)
  obtain ⟨b,rfl⟩:=ints_fit (es:=r) fun x hx=>h x (List.mem_cons_of_mem _ hx)
  cases h1
  exact ⟨c::b,rfl⟩
theorem intl_fit {r:List CT} {ds:List Data} (h:Fits' (.sl false [.int .i64]::r) ds):∃ (b:List Int) (t:List Data),ds=.slice 1 (ints b)::t∧Fits' r t:=by
 simp only [Fits'] at h
 obtain ⟨d,t,rfl,hd,ht⟩:=h
 simp only [Fit] at hd
 obtain ⟨es,rfl,he⟩:=hd
 obtain ⟨b,rfl⟩:=ints_fit (es:=es) fun e h=>by
  have:=he e h
  simpa [Fits',Fit] using this
 exact ⟨b,t,rfl,ht⟩
theorem wgts_ints:∀ (l:List Int),l.length≤wgts (ints l)
 | []=>Nat.zero_le _
 | x::r=>by
  have h:=wgts_ints r
  have e:wgts (ints (x::r))=1+wgts (ints r):=rfl
  rw [e]; simp only [List.length_cons]; omega
theorem iss_fit:∀ {es:List Vc.Data},(∀ e∈es,Fits' [.sl false [.int .i64]] [e])→∃ l:List (List Int),es=iss l
 | [],_=>⟨[],rfl⟩
 | e::r,h=>by
  obtain ⟨c,t,h1,_⟩:=intl_fit (h e List.mem_cons_self)
  obtain ⟨b,rfl⟩:=iss_fit (es:=r) fun x hx=>h x (List.mem_cons_of_mem _ hx)
  cases h1
  exact ⟨c::b,rfl⟩
theorem issl_fit {r:List CT} {ds:List Vc.Data} (h:Fits' (.sl false [.sl false [.int .i64]]::r) ds):∃ (b:List (List Int)) (t:List Vc.Data),ds=.slice 1 (iss b)::t∧Fits' r t:=by
 simp only [Fits'] at h
 obtain ⟨d,t,rfl,hd,ht⟩:=h
 simp only [Fit] at hd
 obtain ⟨es,rfl,he⟩:=hd
 obtain ⟨b,rfl⟩:=iss_fit (es:=es) fun e h=>by
  have:=he e h
  simpa [Fits',Fit] using this
 exact ⟨b,t,rfl,ht⟩
theorem wgts_iss:∀ (l:List (List Int)),l.length≤wgts (iss l)∧∀ o∈l,o.length≤wgts (iss l)
 | []=>⟨Nat.zero_le _,fun _ h=>(by cases h)⟩
 | x::r=>by
  have h:=wgts_iss r
  have e:wgts (iss (x::r))=(wgts (ints x)+1)+wgts (iss r):=rfl
  have hx:=wgts_ints x
  rw [e]
  refine ⟨by simp only [List.length_cons]; omega,fun o ho=>?_⟩
  rcases List.mem_cons.1 ho with rfl | ho
  ·omega
  ·have:=h.2 o ho; omega
end Vc
namespace Vc
open Go Go.Proofs
theorem ivs_fit:∀ {es:List Data},(∀ e∈es,∃ ds,e=.agg ds∧Fits' [.int .i64,.int .i64] ds)→∃ l:List (Int × Int),es=ivs l
 | [],_=>⟨[],rfl⟩
 | e::r,h=>by
  obtain ⟨ds,rfl,hd⟩:=h e List.mem_cons_self
  obtain ⟨a,t,rfl,_,h1⟩:=i64_fit hd
  obtain ⟨b,t2,rfl,_,h2⟩:=i64_fit h1
  obtain rfl:=fits_nil h2
  obtain ⟨l,rfl⟩:=ivs_fit (es:=r) fun x hx=>h x (List.mem_cons_of_mem _ hx)
  exact ⟨(a,b)::l,rfl⟩
theorem ivsl_fit {r:List CT} {ds:List Data} (h:Fits' (.sl true [.int .i64,.int .i64]::r) ds):∃ (l:List (Int × Int)) (t:List Data),ds=.slice 2 (ivs l)::t∧Fits' r t:=by
 simp only [Fits'] at h
 obtain ⟨d,t,rfl,hd,ht⟩:=h
 simp only [Fit] at hd
 obtain ⟨es,rfl,he⟩:=hd
 obtain ⟨l,rfl⟩:=ivs_fit (es:=es) he
 exact ⟨l,t,rfl,ht⟩
theorem wgts_ivs:∀ (l:List (Int × Int)),l.length≤wgts (ivs l)
 | []=>Nat.zero_le _
 | x::r=>by
  have h:=wgts_ivs r
  have e:wgts (ivs (x::r))=(1+(1+0))+wgts (ivs r):=rfl
  rw [e]; simp only [List.length_cons]; omega
end Vc
set_option linter.unusedVariables false
namespace Vc
theorem rest_shift (m n:Int):∀ i,restN m n (i+1)=restN m (n / m) i
 | 0=>rfl
 | i+1=>by
  show restN m n (i+1) / m=restN m (n / m) i / m
  rw [rest_shift m n i]
theorem dig_shift (m n:Int):∀ i,digN m n (i+1)=(n % m)::digN m (n / m) i
 | 0=>rfl
 | i+1=>by
  show digN m n (i+1)++[restN m n (i+1) % m]=(n % m)::(digN m (n / m) i++[restN m (n / m) i % m])
  rw [dig_shift m n i,rest_shift]; rfl
def encN (m:Int):List Int→Int
 | []=>0
 | x::r=>x+m * encN m r
theorem enc_dig {m:Int} (hm:1≤m):∀ {u:List Int},(∀ x∈u,0≤x∧x < m)→digN m (encN m u) u.length=u
 | [],_=>rfl
 | x::r,h=>by
  have hx:=h x List.mem_cons_self
  show digN m (x+m * encN m r) (r.length+1)=_
  rw [dig_shift,Int.add_mul_emod_self_left,Int.emod_eq_of_lt hx.1 hx.2,Int.add_mul_ediv_left _ _ (by omega),Int.ediv_eq_zero_of_lt hx.1 hx.2,Int.zero_add,enc_dig hm fun y hy=>h y (List.mem_cons_of_mem _ hy)]
theorem enc_rng {m:Int} (hm:1≤m):∀ {u:List Int},(∀ x∈u,0≤x∧x < m)→0≤encN m u∧encN m u < powN m u.length
 | [],_=>⟨Int.le_refl _,by show (0:Int) < 1; decide⟩
 | x::r,h=>by
  have hx:=h x List.mem_cons_self
  have ih:=enc_rng hm (u:=r) fun y hy=>h y (List.mem_cons_of_mem _ hy)
  show 0≤x+m * encN m r∧x+m * encN m r < powN m r.length * m
  have h1:0≤m * encN m r:=Int.mul_nonneg (by omega) ih.1
  have h2:m * encN m r≤m * (powN m r.length - 1):=Int.mul_le_mul_of_nonneg_left (by omega) (by omega)
  rw [Int.mul_sub,Int.mul_one,Int.mul_comm m (powN m r.length)] at h2
  omega
theorem known_in {m:Int} {h:Nat} {l:List An}:∀ {n k:Nat},k < n→rightB (digN m (k:Int) h) l=true→fndB m h l n=true∧∀ j,lowAt m h l n j≤dg m (k:Int) h j∧dg m (k:Int) h j≤highAt m h l n j
 | 0,_,hk,_=>by omega
 | n+1,k,hk,hr=>by
  by_cases e:k=n
  ·subst e
   cases hf:fndB m h l k with
   | true =>
    obtain ⟨h1,h2,h3⟩:=kn_old hr hf
    refine ⟨h3,fun j=>?_⟩
    rw [h1,h2]; omega
   | false =>
    have h1:=low_new hr hf
    refine ⟨(h1 0).2.2,fun j=>?_⟩
    rw [(h1 j).1,(h1 j).2.1]; omega
  ·obtain ⟨i1,i2⟩:=known_in (n:=n) (by omega) hr
   cases hn:rightB (digN m (n:Int) h) l with
   | true =>
    obtain ⟨h1,h2,h3⟩:=kn_old hn i1
    refine ⟨h3,fun j=>?_⟩
    have:=i2 j
    rw [h1,h2]; omega
   | false =>
    have h1:=low_no hn
    refine ⟨by rw [(h1 0).2.2]; exact i1,fun j=>?_⟩
    rw [(h1 j).1,(h1 j).2.1]; exact i2 j
theorem known_at {m:Int} {h:Nat} {l:List An}:∀ {n:Nat},fndB m h l n=true→∀ j,(∃ k,k < n∧rightB (digN m (k:Int) h) l=true∧lowAt m h l n j=dg m (k:Int) h j)∧∃ k,k < n∧rightB (digN m (k:Int) h) l=true∧highAt m h l n j=dg m (k:Int) h j
 | 0,hf,_=>by cases hf
 | n+1,hf,j=>by
  cases hn:rightB (digN m (n:Int) h) l with
  | true =>
   cases hf2:fndB m h l n with
   | true =>
    obtain ⟨h1,h2,_⟩:=kn_old hn hf2
    obtain ⟨⟨a,a1,a2,a3⟩,b,b1,b2,b3⟩:=known_at hf2 j
    rw [h1,h2]
    constructor
    ·by_cases c:lowAt m h l n j≤dg m (n:Int) h j
     ·exact ⟨a,by omega,a2,by rw [← a3]; omega⟩
     ·exact ⟨n,by omega,hn,by omega⟩
    ·by_cases c:dg m (n:Int) h j≤highAt m h l n j
     ·exact ⟨b,by omega,b2,by rw [← b3]; omega⟩
     ·exact ⟨n,by omega,hn,by omega⟩
   | false =>
    have h1:=low_new hn hf2 j
    exact ⟨⟨n,by omega,hn,h1.1⟩,n,by omega,hn,h1.2.1⟩
  | false =>
   have h1:=low_no hn j
   obtain ⟨⟨a,a1,a2,a3⟩,b,b1,b2,b3⟩:=known_at (by rw [← h1.2.2]; exact hf) j
   exact ⟨⟨a,by omega,a2,by rw [h1.1,a3]⟩,b,by omega,b2,by rw [h1.2.1,b3]⟩
theorem known_mono {m : Int} {h n : Nat} {l l' : List An} (hl : ∀ v, rightB v l' = true → rightB v l = true) (hf : fndB m h l' n = true) (j : Nat) :
  lowAt m h l n j≤lowAt m h l' n j∧highAt m h l' n j≤highAt m h l n j:=by
 obtain ⟨⟨a,a1,a2,a3⟩,b,b1,b2,b3⟩:=known_at hf j
 rw [a3,b3]
 exact ⟨((known_in a1 (hl _ a2)).2 j).1,((known_in b1 (hl _ b2)).2 j).2⟩
theorem uses_n {u:List Int} (hu:∀ x∈u,0≤x∧x≤7):∃ k:Nat,k < (powN 8 u.length).toNat∧digN 8 (k:Int) u.length=u:=by
 have hu2:∀ x∈u,0≤x∧x < 8:=fun x hx=>by have:=hu x hx; omega
 have h1:=enc_rng (m:=8) (by omega) hu2
 refine ⟨(encN 8 u).toNat,by omega,?_⟩
 rw [show (((encN 8 u).toNat:Nat):Int)=encN 8 u by omega]
 exact enc_dig (by omega) hu2
def uGet (u:List Int) (j:Nat):Int:=u[j]?.getD 0
theorem known_uses {u:List Int} {l:List An} (hu:∀ x∈u,0≤x∧x≤7) (hr:rightB u l=true):fndB 8 u.length l (powN 8 u.length).toNat=true∧∀ j,lowAt 8 u.length l (powN 8 u.length).toNat j≤uGet u j∧uGet u j≤highAt 8 u.length l (powN 8 u.length).toNat j:=by
 obtain ⟨k,h1,h2⟩:=uses_n hu
 obtain ⟨h3,h4⟩:=known_in (m:=8) (h:=u.length) (l:=l) h1 (by rw [h2]; exact hr)
 refine ⟨h3,fun j=>?_⟩
 have h5:=h4 j
 unfold dg at h5
 rw [h2] at h5
 exact h5
def tot:List Int→Int
 | []=>0
 | x::r=>x+tot r
theorem tot_app:∀ (a b:List Int),tot (a++b)=tot a+tot b
 | [],b=>by show tot b=0+tot b; omega
 | x::r,b=>by show x+tot (r++b)=x+tot r+tot b; rw [tot_app r b]; omega
theorem sumL_app (f:Int→Int):∀ (a b:List Int),sumL f (a++b)=sumL f a+sumL f b
 | [],b=>by show sumL f b=0+sumL f b; omega
 | x::r,b=>by show f x+sumL f (r++b)=f x+sumL f r+sumL f b; rw [sumL_app f r b]; omega
def rngI (k:Nat):List Int:=(List.range k).map fun (i:Nat)=>(i:Int)
theorem rngI_succ (k:Nat):rngI (k+1)=rngI k++[(k:Int)]:=by unfold rngI; rw [List.range_succ,List.map_append]; rfl
theorem rngI_len (k:Nat):(rngI k).length=k:=by unfold rngI; rw [List.length_map,List.length_range]
theorem rngI_mem {k:Nat} {i:Int} (h:i∈rngI k):0≤i∧i < (k:Int):=by
 obtain ⟨j,hj,rfl⟩:=List.mem_map.1 h
 have:=List.mem_range.1 hj
 omega
theorem sum_rng (v:List Int):∀ k,k≤v.length→sumL (uAt v) (rngI k)=tot (v.take k)
 | 0,_=>rfl
 | k+1,h=>by
  rw [rngI_succ,sumL_app,sum_rng v k (by omega),List.take_succ_eq_append_getElem (by omega),tot_app]
  show _+(uAt v (k:Int)+0)=_+(v[k]+0)
  unfold uAt
  rw [show ((k:Int)).toNat=k from rfl,List.getElem?_eq_getElem (by omega)]; rfl
theorem sum_all (v:List Int):sumL (uAt v) (rngI v.length)=tot v:=by rw [sum_rng v v.length (Nat.le_refl _),List.take_length]
theorem tot_rng:∀ {v:List Int},(∀ x∈v,0≤x∧x≤7)→0≤tot v∧tot v≤7 * (v.length:Int)
 | [],_=>⟨Int.le_refl _,Int.le_refl _⟩
 | x::r,h=>by
  have h1:=h x List.mem_cons_self
  have ih:=tot_rng (v:=r) fun y hy=>h y (List.mem_cons_of_mem _ hy)
  show 0≤x+tot r∧x+tot r≤7 * ((r.length+1:Nat):Int)
  omega
theorem tot_at:∀ {v:List Int} {j:Nat},(∀ x∈v,0≤x∧x≤7)→j < v.length→(0≤uGet v j∧uGet v j≤7)∧uGet v j≤tot v∧tot v≤uGet v j+7 * ((v.length:Int) - 1)
 | x::r,0,h,_=>by
  have h1:=h x List.mem_cons_self
  have ih:=tot_rng (v:=r) fun y hy=>h y (List.mem_cons_of_mem _ hy)
  show (0≤x∧x≤7)∧x≤x+tot r∧x+tot r≤x+7 * (((r.length+1:Nat):Int) - 1)
  omega
 | x::r,j+1,h,hj=>by
  have h1:=h x List.mem_cons_self
  have hj:j < r.length:=by simpa using hj
  have ih:=tot_at (v:=r) (j:=j) (fun y hy=>h y (List.mem_cons_of_mem _ hy)) hj
  show (0≤uGet r j∧uGet r j≤7)∧uGet r j≤x+tot r∧x+tot r≤uGet r j+7 * (((r.length+1:Nat):Int) - 1)
  omega
theorem tot_any:∀ (k:Nat) (T:Int),0≤T→T≤7 * (k:Int)→∃ r:List Int,r.length=k∧(∀ x∈r,0≤x∧x≤7)∧tot r=T
 | 0,T,h1,h2=>⟨[],rfl,fun x h=>(by cases h),by show (0:Int)=T; omega⟩
 | k+1,T,h1,h2=>by
  obtain ⟨r,e1,e2,e3⟩:=tot_any k (T - min 7 T) (by omega) (by omega)
  refine ⟨min 7 T::r,by simp [e1],fun x hx=>?_,by show min 7 T+tot r=T; rw [e3]; omega⟩
  rcases List.mem_cons.1 hx with rfl | hx
  ·omega
  ·exact e2 x hx
theorem tot_with {k j:Nat} {c T:Int} (hj:j < k) (hc:0≤c∧c≤7) (h1:c≤T) (h2:T≤c+7 * ((k:Int) - 1)):∃ v:List Int,v.length=k∧(∀ x∈v,0≤x∧x≤7)∧tot v=T∧uGet v j=c:=by
 obtain ⟨r,e1,e2,e3⟩:=tot_any (k - 1) (T - c) (by omega) (by omega)
 refine ⟨r.take j++c::r.drop j,by rw [List.length_append,List.length_cons,List.length_take,List.length_drop]; omega,fun x hx=>?_,?_,?_⟩
 ·rcases List.mem_append.1 hx with hx | hx
  ·exact e2 x (List.mem_of_mem_take hx)
  ·rcases List.mem_cons.1 hx with rfl | hx
   ·exact hc
   ·exact e2 x (List.mem_of_mem_drop hx)
 ·have h3:=tot_app (r.take j) (r.drop j)
  rw [List.take_append_drop,e3] at h3
  rw [tot_app]
  show _+(c+tot (r.drop j))=T
  omega
 ·unfold uGet
  rw [List.getElem?_append_right (by rw [List.length_take]; omega),List.length_take,show j - min j r.length=0 by omega]; rfl
theorem right_all (v:List Int) (S:Int):rightB v [⟨rngI v.length,S⟩]=(tot v==S):=by
 show ((sumL (uAt v) (rngI v.length)==S)&&true)=_
 rw [sum_all,Bool.and_true]
theorem known_all {u : List Int} (hu : ∀ x ∈ u, 0 ≤ x ∧ x ≤ 7) {j : Nat} (hj : j < u.length) :
  lowAt 8 u.length [⟨rngI u.length,tot u⟩] (powN 8 u.length).toNat j=max 0 (tot u - 7 * ((u.length:Int) - 1))∧highAt 8 u.length [⟨rngI u.length,tot u⟩] (powN 8 u.length).toNat j=min 7 (tot u):=by
 have hr:rightB u [⟨rngI u.length,tot u⟩]=true:=by rw [right_all]; exact beq_self_eq_true _
 have hf:=(known_uses hu hr).1
 have ht:=tot_rng hu
 have put:∀ c:Int,(0≤c∧c≤7)→c≤tot u→tot u≤c+7 * ((u.length:Int) - 1)→lowAt 8 u.length [⟨rngI u.length,tot u⟩] (powN 8 u.length).toNat j≤c∧c≤highAt 8 u.length [⟨rngI u.length,tot u⟩] (powN 8 u.length).toNat j:=fun c h1 h2 h3=>by
  obtain ⟨v,e1,e2,e3,e4⟩:=tot_with hj h1 h2 h3
  have hv:rightB v [⟨rngI v.length,tot u⟩]=true:=by rw [right_all,e3]; exact beq_self_eq_true _
  have h5:=(known_uses e2 hv).2 j
  rw [e1,e4] at h5
  exact h5
 have get:∀ k:Nat,rightB (digN 8 (k:Int) u.length) [⟨rngI u.length,tot u⟩]=true→(0≤dg 8 (k:Int) u.length j∧dg 8 (k:Int) u.length j≤7)∧dg 8 (k:Int) u.length j≤tot u∧tot u≤dg 8 (k:Int) u.length j+7 * ((u.length:Int) - 1):=fun k hk=>by
  have hl:=digN_len 8 (k:Int) u.length
  have h1:=right_all (digN 8 (k:Int) u.length) (tot u)
  rw [hl,hk] at h1
  have h2:tot (digN 8 (k:Int) u.length)=tot u:=by simpa using h1.symm
  have h3:=tot_at (v:=digN 8 (k:Int) u.length) (j:=j) (fun x hx=>by have:=digN_rng (m:=8) (by omega) (n:=(k:Int)) (by omega) u.length x hx; omega) (by omega)
  rw [hl,h2] at h3
  exact h3
 obtain ⟨⟨a,_,a2,a3⟩,b,_,b2,b3⟩:=known_at hf j
 have ga:=get a a2
 have gb:=get b b2
 rw [← a3] at ga
 rw [← b3] at gb
 have p1:=put (max 0 (tot u - 7 * ((u.length:Int) - 1))) (by omega) (by omega) (by omega)
 have p2:=put (min 7 (tot u)) (by omega) (by omega) (by omega)
 omega
end Vc
set_option linter.unusedVariables false
namespace Vc
theorem firstOf_0:∀ {l:List Int},(∀ x∈l,x=0)→firstOf l=0
 | [],_=>rfl
 | x::r,h=>by
  have h0:=h x List.mem_cons_self
  subst h0
  exact firstOf_0 (l:=r) fun y hy=>h y (List.mem_cons_of_mem _ hy)
theorem within_0 {x a b:Int} (h:a≤x∧x≤b):within3 x a b=0:=by
 unfold within3
 rw [decide_eq_false (by omega),decide_eq_false (by omega)]; rfl
theorem uses_ok {u:List Int} (e:usesE u=0):(1≤u.length∧u.length≤5)∧(∀ x∈u,0≤x∧x≤7)∧sumA u=0:=by
 unfold usesE at e
 by_cases ha:sumA u=0
 ·rw [ha] at e
  have h1:=firstOf_zero ha
  have h2:=h1 (bif (u.length:Int)==0 then 12 else 0) (by simp)
  have h3:=h1 (bif decide ((5:Int) < (u.length:Int)) then 5 else 0) (by simp)
  refine ⟨⟨?_,?_⟩,fun x hx=>within_ok (firstOf_zero (show firstOf (u.map fun x=>within3 x 0 7)=0 from e) _ (List.mem_map.2 ⟨x,hx,rfl⟩)),ha⟩
  ·by_cases c:u.length=0
   ·rw [show ((u.length:Int)==0)=true from beq_iff_eq.2 (by omega)] at h2; cases h2
   ·omega
  ·by_cases c:(5:Int) < (u.length:Int)
   ·rw [decide_eq_true c] at h3; cases h3
   ·omega
 ·rw [bne_iff_ne.2 ha] at e; exact absurd e ha
theorem sets_ok {h:Int} {l:List (List Int)} (e:setsE h l=0):l.length≤16∧∀ s∈l,setE h s=0:=by
 unfold setsE at e
 by_cases c:(16:Int) < (l.length:Int)
 ·rw [decide_eq_true c] at e; cases e
 ·rw [decide_eq_false c] at e
  exact ⟨by omega,fun s hs=>firstOf_zero (show firstOf (l.map (setE h))=0 from e) _ (List.mem_map.2 ⟨s,hs,rfl⟩)⟩
theorem uAt_all {u:List Int} (hu:∀ x∈u,0≤x∧x≤7) (i:Int):0≤uAt u i∧uAt u i≤7:=by
 unfold uAt
 cases h:u[i.toNat]? with
 | none=>exact ⟨Int.le_refl _,by decide⟩
 | some x=>exact hu x (List.mem_of_getElem? h)
theorem sumIn_rng {f:Int→Int} (hf:∀ i,0≤f i∧f i≤7) (a:List Int):∀ k:Nat,0≤sumIn f a k∧sumIn f a k≤7 * (k:Int)
 | 0=>⟨Int.le_refl _,Int.le_refl _⟩
 | k+1=>by
  have ih:=sumIn_rng hf a k
  have h:=hf k
  rw [sumIn]
  cases a.contains (k:Int)
  ·show 0≤_+0∧_+0≤_; omega
  ·show 0≤_+f k∧_+f k≤_; omega
theorem sum_ok {u s:List Int} (hu:∀ x∈u,0≤x∧x≤7) (hl:u.length≤5) (hs:setE (u.length:Int) s=0):0≤sumL (uAt u) s∧sumL (uAt u) s≤35:=by
 have h:=sumIn_rng (uAt_all hu) s u.length
 rw [sumIn_asc (uAt u) (setE_asc hs).2] at h
 omega
theorem sumE_0 {u s:List Int} (h:sumA u=0) (hu:∀ x∈u,0≤x∧x≤7) (hs:setE (u.length:Int) s=0):sumE u s=0:=by
 unfold sumE
 rw [h]
 show sumB u s=0
 unfold sumB
 refine firstOf_0 fun x hx=>?_
 simp only [List.mem_cons,List.not_mem_nil,or_false] at hx
 rcases hx with rfl | rfl
 ·refine firstOf_0 fun y hy=>?_
  obtain ⟨z,hz,rfl⟩:=List.mem_map.1 hy
  exact within_0 (hu z hz)
 ·exact hs
def anS (u:List Int) (M:List (List Int)):List An:=M.map fun s=>⟨s,sumL (uAt u) s⟩
theorem anS_snoc (u:List Int) (M:List (List Int)) (s:List Int):anS u (M++[s])=anS u M++[⟨s,sumL (uAt u) s⟩]:=List.map_append
theorem anS_len (u:List Int) (M:List (List Int)):(anS u M).length=M.length:=List.length_map _
theorem ansE_0 {h:Int} {l:List An} (hh:1≤h∧h≤5) (hl:l.length≤16) (hx:∀ x∈l,setE h x.set=0∧(0≤x.sum∧x.sum≤35)):ansE h 7 l=0:=by
 have ha:ansA h 7 l=0:=firstOf_0 fun x hx=>by
  simp only [List.mem_cons,List.not_mem_nil,or_false] at hx
  rcases hx with rfl | rfl | rfl
  ·exact within_0 hh
  ·exact within_0 (by omega)
  ·rw [decide_eq_false (by omega)]; rfl
 unfold ansE
 rw [ha]
 refine firstOf_0 fun y hy=>?_
 obtain ⟨x,hx2,rfl⟩:=List.mem_map.1 hy
 refine firstOf_0 fun y hy=>?_
 simp only [List.mem_cons,List.not_mem_nil,or_false] at hy
 rcases hy with rfl | rfl
 ·exact (hx x hx2).1
 ·exact within_0 (hx x hx2).2
theorem right_S (u:List Int) (M:List (List Int)):rightB u (anS u M)=true:=by
 unfold rightB
 rw [List.all_eq_true]
 intro x hx
 obtain ⟨s,_,rfl⟩:=List.mem_map.1 hx
 exact beq_self_eq_true _
theorem right_init {u:List Int} {a b:List An} (h:rightB u (a++b)=true):rightB u a=true:=by
 unfold rightB at *
 rw [List.all_append,Bool.and_eq_true] at h
 exact h.1
def kU (u:List Int) (l:List An):List (Int × Int):=kivs (u.length:Int) 7 l
theorem kU_len (u:List Int) (l:List An):(kU u l).length=u.length:=kivs_len _ _ _
theorem kU_at {u:List Int} {l:List An} {j:Nat} (hj:j < u.length):(kU u l)[j]?=some (lowAt 8 u.length l (powN 8 u.length).toNat j,highAt 8 u.length l (powN 8 u.length).toNat j):=by
 unfold kU kivs kiv
 rw [List.getElem?_map,List.getElem?_range (by show j < ((u.length:Int)).toNat; omega)]; rfl
theorem kn_U {u:List Int} {l:List An} (he:ansE (u.length:Int) 7 l=0) (hu:∀ x∈u,0≤x∧x≤7) (hr:rightB u l=true):knL (u.length:Int) 7 l=kU u l∧knE (u.length:Int) 7 l=0:=by
 have hf:fndA (u.length:Int) 7 l=true:=(known_uses hu hr).1
 unfold knL knE knV knX
 rw [he,hf]; exact ⟨rfl,rfl⟩
theorem kU_rng {u:List Int} {l:List An} {j:Nat} {y:Int × Int} (h:(kU u l)[j]?=some y):(0≤y.1∧y.1≤7)∧(0≤y.2∧y.2≤7):=kivs_rng (by omega) y (List.mem_of_getElem? h)
theorem kU_in {u:List Int} {l:List An} (hu:∀ x∈u,0≤x∧x≤7) (hr:rightB u l=true) {j:Nat} (hj:j < u.length):∃ y,(kU u l)[j]?=some y∧y.1≤uGet u j∧uGet u j≤y.2 :=
 ⟨_,kU_at hj,(known_uses hu hr).2 j⟩
theorem kU_mono {u:List Int} {a b:List An} (hu:∀ x∈u,0≤x∧x≤7) (hr:rightB u (a++b)=true) {j:Nat} (hj:j < u.length) {x y:Int × Int} (hx:(kU u a)[j]?=some x) (hy:(kU u (a++b))[j]?=some y):x.1≤y.1∧y.2≤x.2:=by
 rw [kU_at hj] at hx hy
 cases hx; cases hy
 exact known_mono (fun v h=>right_init h) (known_uses hu hr).1 j
theorem kA_at {u:List Int} (hu:∀ x∈u,0≤x∧x≤7) {j:Nat} (hj:j < u.length):(kU u [⟨rngI u.length,tot u⟩])[j]?=some (max 0 (tot u - 7 * ((u.length:Int) - 1)),min 7 (tot u)):=by
 rw [kU_at hj,(known_all hu hj).1,(known_all hu hj).2]
theorem setE_rng {h:Nat} (hh:1≤h):setE (h:Int) (rngI h)=0:=by
 have hgo:∀ (l:List Int) (last:Int),Asc (h:Int) last l→setGo (h:Int) last l=0:=by
  intro l
  induction l with
  | nil=>intro _ _; rfl
  | cons i r ih =>
   intro last ⟨h1,h2,h3,h4⟩
   rw [setGo,decide_eq_false (by omega),decide_eq_false (by omega),decide_eq_false (by omega)]
   exact ih i h4
 have hsn:∀ (l:List Int) (last x:Int),Asc (h:Int) last l→(∀ y∈l,y < x)→last < x→0≤x→x < (h:Int)→Asc (h:Int) last (l++[x]):=by
  intro l
  induction l with
  | nil=>intro last x _ _ h3 h4 h5; exact ⟨h4,h5,h3,trivial⟩
  | cons i r ih =>
   intro last x ⟨h1,h2,h3,h4⟩ h5 _ h7 h8
   exact ⟨h1,h2,h3,ih i x h4 (fun y hy=>h5 y (List.mem_cons_of_mem _ hy)) (h5 i List.mem_cons_self) h7 h8⟩
 have hasc:∀ k:Nat,k≤h→Asc (h:Int) (-1) (rngI k):=by
  intro k
  induction k with
  | zero=>intro _; exact trivial
  | succ k ih =>
   intro hk
   rw [rngI_succ]
   exact hsn _ _ _ (ih (by omega)) (fun y hy=>(rngI_mem hy).2) (by omega) (by omega) (by omega)
 unfold setE
 rw [rngI_len,beq_eq_false_iff_ne.2 (by omega)]
 exact hgo _ _ (hasc h (Nat.le_refl _))
theorem all_ok {u:List Int} (hu:∀ x∈u,0≤x∧x≤7) (hl:1≤u.length∧u.length≤5):knL (u.length:Int) 7 [⟨rngI u.length,tot u⟩]=kU u [⟨rngI u.length,tot u⟩]∧knE (u.length:Int) 7 [⟨rngI u.length,tot u⟩]=0:=by
 have ht:=tot_rng hu
 refine kn_U (ansE_0 (by omega) (by show 1≤16; omega) fun x hx=>?_) hu (by rw [right_all]; exact beq_self_eq_true _)
 rw [List.mem_singleton.1 hx]
 exact ⟨setE_rng hl.1,by show 0≤tot u∧tot u≤35; omega⟩
theorem permE_0 {h:Nat} {asked:List (List Int)} {s:List Int} (hh:1≤h∧h≤5) (ha:asked.length≤16) (ho:∀ o∈asked,setE (h:Int) o=0) (hs:setE (h:Int) s=0):permE (h:Int) 2 asked s=0:=by
 have e1:permA (h:Int) 2 asked=0:=firstOf_0 fun x hx=>by
  simp only [List.mem_cons,List.not_mem_nil,or_false] at hx
  rcases hx with rfl | rfl | rfl
  ·exact within_0 (by omega)
  ·exact within_0 (by omega)
  ·rw [decide_eq_false (by omega)]; rfl
 unfold permE
 rw [e1]
 refine firstOf_0 fun x hx=>?_
 simp only [List.mem_cons,List.not_mem_nil,or_false] at hx
 rcases hx with rfl | rfl
 ·refine firstOf_0 fun y hy=>?_
  obtain ⟨o,h1,rfl⟩:=List.mem_map.1 hy
  exact ho o h1
 ·exact hs
theorem perm_no {h:Nat} {asked:List (List Int)} {s:List Int} (ho:∀ o∈asked,setE (h:Int) o=0) (hs:setE (h:Int) s=0) (hp:permP 2 asked s=true):2≤s.length∧∀ o∈asked,xorN o s h≠1:=by
 rw [perm_eq (h:=h) (setE_asc hs).2 fun o h1=>(setE_asc (ho o h1)).2] at hp
 unfold permR at hp
 rw [Bool.and_eq_true,List.all_eq_true] at hp
 refine ⟨?_,fun o h1 h2=>?_⟩
 ·have:=hp.1
  by_cases c:(s.length:Int) < 2
  ·rw [decide_eq_true c] at this; cases this
  ·omega
 ·have:=hp.2 o h1
  rw [h2] at this; cases this
theorem cI_ord {x:Int × Int} (h:cI x=0):x.1≤x.2:=by
 have h1:=firstOf_zero h (bif decide (x.2 < x.1) then 11 else 0) (by simp)
 by_cases c:x.2 < x.1
 ·rw [decide_eq_true c] at h1; cases h1
 ·omega
theorem met_ok {l:List (Int × Int)} (h:metE l=0):l.length≤256∧∀ x∈l,cI x=0:=by
 unfold metE at h
 by_cases c:(256:Int) < (l.length:Int)
 ·rw [decide_eq_true c] at h; cases h
 ·rw [decide_eq_false c] at h
  exact ⟨by omega,fun x hx=>firstOf_zero (show firstOf (l.map cI)=0 from h) _ (List.mem_map.2 ⟨x,hx,rfl⟩)⟩
theorem bal_0 {f:Int × Int} {l:List (Int × Int)} (hf:cI f=0) (hl:l.length≤256) (hx:∀ x∈l,cI x=0):balE f l=0:=by
 rw [balE_eq,hf]
 show firstOf [metE l]=0
 have:metE l=0:=by
  unfold metE
  rw [decide_eq_false (by omega)]
  exact firstOf_0 fun y hy=>by
   obtain ⟨x,h1,rfl⟩:=List.mem_map.1 hy
   exact hx x h1
 rw [this]; rfl
theorem balG_snoc:∀ (l:List (Int × Int)) (x b:Int × Int),balG (l++[x]) b=((balG l b).1 - x.2,(balG l b).2 - x.1)
 | [],x,b=>rfl
 | y::r,x,b=>balG_snoc r x (b.1 - y.2,b.2 - y.1)
theorem verd_spec (x:Int × Int):(verd x=1∧0 < x.1)∨(verd x=-1∧x.1≤0∧x.2 < 0)∨(verd x=0∧x.1≤0∧0≤x.2):=by
 unfold verd
 by_cases h1:0 < x.1
 ·rw [decide_eq_true h1]; exact .inl ⟨rfl,h1⟩
 ·rw [decide_eq_false h1]
  by_cases h2:x.2 < 0
  ·rw [decide_eq_true h2]; exact .inr (.inl ⟨rfl,by omega,h2⟩)
  ·rw [decide_eq_false h2]; exact .inr (.inr ⟨rfl,by omega,by omega⟩)
theorem bal_rng {f:Int × Int} (hf:cI f=0) {l:List (Int × Int)} (hx:∀ x∈l,cI x=0):∀ k:Nat,k≤l.length→(balG (l.take k) f).1≤(balG (l.take k) f).2∧-(1000000000 * (k:Int))≤(balG (l.take k) f).1∧(balG (l.take k) f).2≤1000000000
 | 0,_=>by
  have h1:=cI_ok hf
  have h2:=cI_ord hf
  show f.1≤f.2∧-(1000000000 * ((0:Nat):Int))≤f.1∧f.2≤1000000000
  omega
 | k+1,hk=>by
  have ih:=bal_rng hf hx k (by omega)
  have h0:=hx l[k] (List.getElem_mem (by omega))
  have h1:=cI_ok h0
  have h2:=cI_ord h0
  rw [List.take_succ_eq_append_getElem (by omega),balG_snoc]
  show _ - l[k].2≤_ - l[k].1∧_≤_ - l[k].2∧_ - l[k].1≤_
  omega
end Vc
set_option maxRecDepth 10000
set_option maxHeartbeats 4000000
namespace Vc
open Go Go.Proofs
@[irreducible] def seg10x2:ACode:=(.post [0,1,5,7,8,9,13,82,83,84] [0,1,2,3,4,5,6,7,8,9,10,11,12]
 (.block 2
 (.keep [0,1,5,7,8,9,13,82,83,84,120,121,122] [0,1,2,3,4,5,6,7,8,9]
 (.loop
 (.post [0,1,5,7,8,9,13,82,83,84,120,121,122] [10,11,12]
 (.seq
 (.reg [] [⟨some 123,.cmp .lss (.tmp 122) (.tmp 121),none⟩])
 (.seq
 (.cond (.tmp 123)
 .skip
 (.exit 2))
 (.seq
 (.block 3
 (.seq
 (.reg [10] [⟨some 124,.mov (.tmp 122),none⟩,
 ⟨some 125,.ixa 2 (.tmp 120) (.tmp 122),none⟩,
 ⟨some 126,.ld true 2 (.tmp 125),none⟩,
 ⟨some 15,.alloc 10 [(.nils 1),(.d (.int .i64 0))],none⟩,
 ⟨some 14,.mov (.tmp 124),none⟩,
 ⟨none,.st 2 (.tmp 15) (.tmp 126),none⟩])
 (.regd [11,12] [⟨some 127,.mov (.tmp 13),none⟩,
 ⟨some 128,.mov (.tmp 14),none⟩,
 ⟨some 129,.bsl 11 3 1 0 [] [],none⟩,
 ⟨some 130,.fad 0 (.tmp 15),none⟩,
 ⟨some 131,.ld false 1 (.tmp 130),none⟩,
 ⟨some 132,.app 12 3 1 8 (.tmp 129) (.tmp 131),none⟩,
 ⟨some 133,.fad 1 (.tmp 15),none⟩,
 ⟨some 134,.ld false 1 (.tmp 133),none⟩,
 ⟨some 135,.build [(.nils 1),(.d (.int .i64 0))] [(0,1,(.tmp 132)),(1,1,(.tmp 134))],none⟩,
 ⟨some 136,.ixa 2 (.tmp 127) (.tmp 128),none⟩,
 ⟨none,.st 2 (.tmp 136) (.tmp 135),none⟩] [(0,1),(0,2),(1,2),(0,3),(1,3),(2,3),(0,4),(1,4),(2,4),(0,5),(1,5),(0,6),(1,6),(2,6),(3,6),(4,6),(5,6),(0,7),(1,7),(2,7),(3,7),(4,7),(5,7),(0,8),(1,8)])))
 (.reg [] [⟨some 137,.arith .add .i64 (.tmp 122) (.cst (.d (.int .i64 1))),none⟩,
 ⟨some 122,.mov (.tmp 137),none⟩])))))))))
@[irreducible] def seg10x4:ACode:=(.post [0,1,5,7,16,82,83,84] [0,1,2,3,4,5,6,7,8,9,10,11,12,13]
 (.block 4
 (.keep [0,1,5,7,8,9,16,82,83,84,154,155,156] [0,1,2,3,4,5,6,7,8,9,10,11,12]
 (.loop
 (.post [0,1,5,7,8,9,16,82,83,84,154,155,156] [13]
 (.seq
 (.reg [] [⟨some 157,.cmp .lss (.tmp 156) (.tmp 155),none⟩])
 (.seq
 (.cond (.tmp 157)
 .skip
 (.exit 4))
 (.seq
 (.block 5
 (.seq
 (.reg [13] [⟨some 158,.mov (.tmp 156),none⟩,
 ⟨some 159,.ixa 2 (.tmp 154) (.tmp 156),none⟩,
 ⟨some 160,.ld true 2 (.tmp 159),none⟩,
 ⟨some 19,.alloc 13 [(.d (.int .i64 0)),(.d (.int .i64 0))],none⟩,
 ⟨some 18,.mov (.tmp 158),none⟩,
 ⟨none,.st 2 (.tmp 19) (.tmp 160),none⟩])
 (.seq
 (.regd [] [⟨some 161,.mov (.tmp 0),none⟩,
 ⟨some 162,.mov (.tmp 18),none⟩,
 ⟨some 163,.ixa 1 (.tmp 161) (.tmp 162),none⟩,
 ⟨some 164,.ld false 1 (.tmp 163),none⟩,
 ⟨some 165,.fad 0 (.tmp 19),none⟩,
 ⟨some 166,.ld false 1 (.tmp 165),none⟩,
 ⟨some 167,.cmp .lss (.tmp 164) (.tmp 166),none⟩,
 ⟨some 168,.mov (.tmp 167),none⟩,
 ⟨some 169,.mov (.tmp 0),some (168,false)⟩,
 ⟨some 170,.mov (.tmp 18),some (168,false)⟩,
 ⟨some 171,.ixa 1 (.tmp 169) (.tmp 170),some (168,false)⟩,
 ⟨some 172,.ld false 1 (.tmp 171),some (168,false)⟩,
 ⟨some 173,.fad 1 (.tmp 19),some (168,false)⟩,
 ⟨some 174,.ld false 1 (.tmp 173),some (168,false)⟩,
 ⟨some 175,.cmp .gtr (.tmp 172) (.tmp 174),some (168,false)⟩,
 ⟨some 176,.pick (.tmp 168) (.cst (.d (.bool true))) (.tmp 175),none⟩,
 ⟨some 177,.mov (.tmp 176),none⟩,
 ⟨some 178,.fad 0 (.tmp 19),some (177,false)⟩,
 ⟨some 179,.ld false 1 (.tmp 178),some (177,false)⟩,
 ⟨some 180,.cmp .lss (.tmp 179) (.cst (.d (.int .i64 0))),some (177,false)⟩,
 ⟨some 181,.pick (.tmp 177) (.cst (.d (.bool true))) (.tmp 180),none⟩,
 ⟨some 182,.mov (.tmp 181),none⟩,
 ⟨some 183,.fad 1 (.tmp 19),some (182,false)⟩,
 ⟨some 184,.ld false 1 (.tmp 183),some (182,false)⟩,
 ⟨some 185,.cmp .gtr (.tmp 184) (.cst (.d (.int .i64 7))),some (182,false)⟩,
 ⟨some 186,.pick (.tmp 182) (.cst (.d (.bool true))) (.tmp 185),none⟩,
 ⟨some 187,.mov (.tmp 186),none⟩,
 ⟨some 188,.mov (.tmp 9),some (187,false)⟩,
 ⟨some 189,.cmp .gtr (.tmp 188) (.cst (.d (.int .i64 0))),some (187,false)⟩,
 ⟨some 190,.mov (.tmp 189),some (187,false)⟩,
 ⟨some 191,.fad 0 (.tmp 19),some (190,true)⟩,
 ⟨some 192,.ld false 1 (.tmp 191),some (190,true)⟩,
 ⟨some 193,.mov (.tmp 8),some (190,true)⟩,
 ⟨some 194,.mov (.tmp 18),some (190,true)⟩,
 ⟨some 195,.ixa 2 (.tmp 193) (.tmp 194),some (190,true)⟩,
 ⟨some 196,.fad 0 (.tmp 195),some (190,true)⟩,
 ⟨some 197,.ld false 1 (.tmp 196),some (190,true)⟩,
 ⟨some 198,.cmp .lss (.tmp 192) (.tmp 197),some (190,true)⟩,
 ⟨some 199,.mov (.tmp 198),some (190,true)⟩,
 ⟨some 200,.fad 1 (.tmp 19),some (199,false)⟩,
 ⟨some 201,.ld false 1 (.tmp 200),some (199,false)⟩,
 ⟨some 202,.mov (.tmp 8),some (199,false)⟩,
 ⟨some 203,.mov (.tmp 18),some (199,false)⟩,
 ⟨some 204,.ixa 2 (.tmp 202) (.tmp 203),some (199,false)⟩,
 ⟨some 205,.fad 1 (.tmp 204),some (199,false)⟩,
 ⟨some 206,.ld false 1 (.tmp 205),some (199,false)⟩,
 ⟨some 207,.cmp .gtr (.tmp 201) (.tmp 206),some (199,false)⟩,
 ⟨some 208,.pick (.tmp 199) (.cst (.d (.bool true))) (.tmp 207),some (190,true)⟩,
 ⟨some 209,.pick (.tmp 190) (.tmp 208) (.cst (.d (.bool false))),some (187,false)⟩,
 ⟨some 210,.pick (.tmp 187) (.cst (.d (.bool true))) (.tmp 209),none⟩] [(0,1),(0,4),(1,4),(2,4),(3,4),(0,5),(1,5),(2,5),(3,5),(8,9),(8,12),(9,12),(10,12),(11,12),(8,13),(9,13),(10,13),(11,13),(30,32),(31,32),(30,33),(31,33),(32,33),(30,34),(31,34),(30,35),(31,35),(30,36),(31,36),(39,41),(40,41),(39,42),(40,42),(41,42),(39,43),(40,43),(39,44),(40,44),(39,45),(40,45)])
 (.cond (.tmp 210)
 (.seq
 (.reg [] [⟨some 6,.mov (.cst (.d (.bool false))),none⟩])
 .ret)
 .skip))))
 (.reg [] [⟨some 211,.arith .add .i64 (.tmp 156) (.cst (.d (.int .i64 1))),none⟩,
 ⟨some 156,.mov (.tmp 211),none⟩])))))))))
theorem v10b {N:Nat} {u:List Int} {L:List (List Int)} {f:Int × Int} {ms:List (Int × Int)} {A:List An} {B:List (Int × Int)} {q:Int} (hA:A.length≤16) (hs:∀ x∈A,x.set.length≤1048576) {Q:AExit→St→Prop} (hQ:Q .normal ⟨[(0,.d (.slice 1 (ints u))),(1,.d (.slice 1 (iss L))),(5,.ptr 0 0),(7,.sl 8 (ans A).length),(8,.d (.slice 2 (ivs B))),(9,.d (.int .i64 (q))),(13,.sl 9 (ans A).length),(82,.d (.slice 1 (iss L))),(83,.d (.int .i64 (((iss L).length:Nat)))),(84,.d (.int .i64 (q)))],[.cbox [.int .i64 f.1,.int .i64 f.2,.slice 2 (ivs ms)],.none,.none,.none,.none,.none,.none,.none,.row 155 2 (ans A) false,.row 155 2 (ans A) false,.none,.none,.none,.none,.none,.none,.none,.none,.none,.none,.none,.none,.none,.none]⟩):vc Tryz.prog N seg10x2 ⟨[(0,.d (.slice 1 (ints u))),(1,.d (.slice 1 (iss L))),(5,.ptr 0 0),(7,.sl 8 (ans A).length),(8,.d (.slice 2 (ivs B))),(9,.d (.int .i64 (q))),(13,.sl 9 (ans A).length),(82,.d (.slice 1 (iss L))),(83,.d (.int .i64 (((iss L).length:Nat)))),(84,.d (.int .i64 (q))),(120,.sl 8 (ans A).length),(121,.d (.int .i64 (((ans A).length:Nat)))),(122,.d (.int .i64 (0)))],[.cbox [.int .i64 f.1,.int .i64 f.2,.slice 2 (ivs ms)],.none,.none,.none,.none,.none,.none,.none,.row 155 2 (ans A) false,.row 155 2 (List.replicate (ans A).length (Data.agg [.slice 1 [],.int .i64 0])) false,.none,.none,.none,.none,.none,.none,.none,.none,.none,.none,.none,.none,.none,.none]⟩ Q:=by
 unfold seg10x2
 have hlen:=ans_len A
 refine loop_st (fun k:Nat=>⟨[(0,.d (.slice 1 (ints u))),(1,.d (.slice 1 (iss L))),(5,.ptr 0 0),(7,.sl 8 (ans A).length),(8,.d (.slice 2 (ivs B))),(9,.d (.int .i64 (q))),(13,.sl 9 (ans A).length),(82,.d (.slice 1 (iss L))),(83,.d (.int .i64 (((iss L).length:Nat)))),(84,.d (.int .i64 (q))),(120,.sl 8 (ans A).length),(121,.d (.int .i64 (((ans A).length:Nat)))),(122,.d (.int .i64 ((k:Nat))))],[.cbox [.int .i64 f.1,.int .i64 f.2,.slice 2 (ivs ms)],.none,.none,.none,.none,.none,.none,.none,.row 155 2 (ans A) false,.row 155 2 (ans (A.take k)++List.replicate ((ans A).length - k) (Data.agg [.slice 1 [],.int .i64 0])) false,.none,.none,.none,.none,.none,.none,.none,.none,.none,.none,.none,.none,.none,.none]⟩) (fun k=>k≤A.length) (fun k=>A.length - k) 0 rfl (Nat.zero_le _) ?_
 intro k hk
 have hk:k≤A.length:=hk
 have hlr:(ans (A.take k)++List.replicate ((ans A).length - k) (Data.agg [.slice 1 [],.int .i64 0])).length=A.length:=by rw [List.length_append,List.length_replicate,ans_len,ans_len,List.length_take]; omega
 dsimp only
 by_cases hkn:k < A.length
 ·refine Exists.elim (get_lt A hkn) fun x hx=>?_
  have hx1:=ans_at hx
  have hxs:=hs x (List.mem_of_getElem? hx)
  have hli:=ints_len x.set
  have hx2:(ans (A.take k)++List.replicate ((ans A).length - k) (Data.agg [.slice 1 [],.int .i64 0]))[((k:Nat):Int).toNat]?=some (Data.agg [.slice 1 [],.int .i64 0]):=by
   show (ans (A.take k)++List.replicate ((ans A).length - k) (Data.agg [.slice 1 [],.int .i64 0]))[k]?=_
   rw [List.getElem?_append_right (by rw [ans_len,List.length_take]; omega),ans_len (A.take k),List.length_take,List.getElem?_replicate,if_pos (by rw [hlen]; omega)]
  have hset:(ans (A.take k)++List.replicate ((ans A).length - k) (Data.agg [.slice 1 [],.int .i64 0])).set k (.agg [.slice 1 (ints x.set),.int .i64 x.sum])=ans (A.take (k+1))++List.replicate ((ans A).length - (k+1)) (Data.agg [.slice 1 [],.int .i64 0]):=by
   rw [List.set_append_right _ _ (by rw [ans_len,List.length_take]; omega),ans_len (A.take k),List.length_take,show k - min k A.length=0 by omega,show (ans A).length - k=(ans A).length - (k+1)+1 by rw [hlen]; omega,ans_step hx,List.append_assoc]; rfl
  have fin:∀ W:List Data,W=ans (A.take (k+1))++List.replicate ((ans A).length - (k+1)) (Data.agg [.slice 1 [],.int .i64 0])→∃ a':Nat,(a'≤A.length∧A.length - a' < A.length - k)∧(⟨[(0,.d (.slice 1 (ints u))),(1,.d (.slice 1 (iss L))),(5,.ptr 0 0),(7,.sl 8 (ans A).length),(8,.d (.slice 2 (ivs B))),(9,.d (.int .i64 (q))),(13,.sl 9 (ans A).length),(82,.d (.slice 1 (iss L))),(83,.d (.int .i64 (((iss L).length:Nat)))),(84,.d (.int .i64 (q))),(120,.sl 8 (ans A).length),(121,.d (.int .i64 (((ans A).length:Nat)))),(122,.d (.int .i64 (((k:Int)+1))))],[.cbox [.int .i64 f.1,.int .i64 f.2,.slice 2 (ivs ms)],.none,.none,.none,.none,.none,.none,.none,.row 155 2 (ans A) false,.row 155 2 (W) false,.none,.none,.none,.none,.none,.none,.none,.none,.none,.none,.none,.none,.none,.none]⟩:St)=⟨[(0,.d (.slice 1 (ints u))),(1,.d (.slice 1 (iss L))),(5,.ptr 0 0),(7,.sl 8 (ans A).length),(8,.d (.slice 2 (ivs B))),(9,.d (.int .i64 (q))),(13,.sl 9 (ans A).length),(82,.d (.slice 1 (iss L))),(83,.d (.int .i64 (((iss L).length:Nat)))),(84,.d (.int .i64 (q))),(120,.sl 8 (ans A).length),(121,.d (.int .i64 (((ans A).length:Nat)))),(122,.d (.int .i64 ((a':Nat))))],[.cbox [.int .i64 f.1,.int .i64 f.2,.slice 2 (ivs ms)],.none,.none,.none,.none,.none,.none,.none,.row 155 2 (ans A) false,.row 155 2 (ans (A.take a')++List.replicate ((ans A).length - a') (Data.agg [.slice 1 [],.int .i64 0])) false,.none,.none,.none,.none,.none,.none,.none,.none,.none,.none,.none,.none,.none,.none]⟩:=fun W e =>
   ⟨k+1,⟨by omega,by omega⟩,by rw [e]; rfl⟩
  have fin:=fin _ hset
  clear hset
  generalize ans (A.take k)++List.replicate ((ans A).length - k) (Data.agg [.slice 1 [],.int .i64 0])=W at *
  refine sd ?_
  refine b_lt (fun t1=>?_) (fun t1=>?_)
  refine an ?_ ?_
  refine an ?_ ?_
  exact rfl
  refine an ?_ ?_
  exact rfl
  refine an ?_ ?_
  (show (0:Int)≤(↑k:Int); omega)
  assumption
  refine sd ?_
  refine ca hx1 ?_
  refine sd ?_
  refine sd ?_
  refine an ?_ ?_
  refine an ?_ ?_
  exact rfl
  refine an ?_ ?_
  exact rfl
  refine an ?_ ?_
  exact rfl
  refine an ?_ ?_
  (show ((0:Nat)+List.length (ints (An.set x))) * (8:Nat)≤(2:Nat) ^ (47:Nat); omega)
  (show (0:Nat)+List.length (ints (An.set x))≤(2:Nat) ^ (47:Nat); omega)
  refine sd ?_
  refine an ?_ ?_
  refine an ?_ ?_
  exact rfl
  refine an ?_ ?_
  (show List.length W=List.length (ans A); omega)
  refine an ?_ ?_
  (show (0:Int)≤(↑k:Int); omega)
  assumption
  refine sd ?_
  refine Exists.intro _ (Exists.intro (Vc.Data.agg [Data.slice (1:Nat) ([]++ints (An.set x)),Data.int IntKind.i64 (An.sum x)]) (And.intro (And.intro ?_ (And.intro hx2 (And.intro rfl (And.intro ?_ (And.intro rfl rfl))))) ?_))
  (show List.length W=List.length (ans A); omega)
  (show (0:Nat)+(2:Nat)≤(1:Nat)+(1:Nat); omega)
  refine ar_add ?_ ?_
  refine an ?_ ?_
  (show (-9223372036854775808:Int)≤(↑k:Int)+(1:Int); omega)
  (show (↑k:Int)+(1:Int)≤(9223372036854775807:Int); omega)
  rotate_left
  (exfalso; omega)
  all_goals exact fin
 ·have e:k=A.length:=by omega
  subst e
  rw [show (ans A).length - A.length=0 by rw [hlen]; omega,List.take_of_length_le (Nat.le_refl _),show List.replicate 0 (Data.agg [.slice 1 [],.int .i64 0])=[] from rfl,List.append_nil]
  refine sd ?_
  refine b_lt (fun t1=>?_) (fun t1=>?_)
  (exfalso; omega)
  rotate_left
  exact hQ
theorem v10d {N:Nat} {u:List Int} {L:List (List Int)} {f:Int × Int} {ms:List (Int × Int)} {A:List An} {K B:List (Int × Int)} {q:Nat} (hK:K.length=u.length) (hl:u.length≤5) (hin:∀ j,j < u.length→∃ y,K[j]?=some y∧(0≤y.1∧y.2≤7)∧y.1≤uGet u j∧uGet u j≤y.2) (hbf:0 < q→∀ (j:Nat) (y:Int × Int),j < u.length→K[j]?=some y→∃ z,B[j]?=some z∧z.1≤y.1∧y.2≤z.2) {Q:AExit→St→Prop} (hQ:Q .normal ⟨[(0,.d (.slice 1 (ints u))),(1,.d (.slice 1 (iss L))),(5,.ptr 0 0),(7,.sl 8 (ans A).length),(16,.d (.slice 2 (ivs K))),(82,.d (.slice 1 (iss L))),(83,.d (.int .i64 (((iss L).length:Nat)))),(84,.d (.int .i64 ((q:Nat):Int)))],[.cbox [.int .i64 f.1,.int .i64 f.2,.slice 2 (ivs ms)],.none,.none,.none,.none,.none,.none,.none,.row 155 2 (ans A) false,.none,.none,.none,.none,.none,.none,.none,.none,.none,.none,.none,.none,.none,.none,.none]⟩):vc Tryz.prog N seg10x4 ⟨[(0,.d (.slice 1 (ints u))),(1,.d (.slice 1 (iss L))),(5,.ptr 0 0),(7,.sl 8 (ans A).length),(8,.d (.slice 2 (ivs B))),(9,.d (.int .i64 ((q:Nat):Int))),(16,.d (.slice 2 (ivs K))),(82,.d (.slice 1 (iss L))),(83,.d (.int .i64 (((iss L).length:Nat)))),(84,.d (.int .i64 ((q:Nat):Int))),(154,.d (.slice 2 (ivs K))),(155,.d (.int .i64 (((ivs K).length:Nat)))),(156,.d (.int .i64 (0)))],[.cbox [.int .i64 f.1,.int .i64 f.2,.slice 2 (ivs ms)],.none,.none,.none,.none,.none,.none,.none,.row 155 2 (ans A) false,.none,.none,.none,.none,.none,.none,.none,.none,.none,.none,.none,.none,.none,.none,.none]⟩ Q:=by
 unfold seg10x4
 have hlK:=ivs_len K
 have hlu:=ints_len u
 refine loop_st (fun k:Nat=>⟨[(0,.d (.slice 1 (ints u))),(1,.d (.slice 1 (iss L))),(5,.ptr 0 0),(7,.sl 8 (ans A).length),(8,.d (.slice 2 (ivs B))),(9,.d (.int .i64 ((q:Nat):Int))),(16,.d (.slice 2 (ivs K))),(82,.d (.slice 1 (iss L))),(83,.d (.int .i64 (((iss L).length:Nat)))),(84,.d (.int .i64 ((q:Nat):Int))),(154,.d (.slice 2 (ivs K))),(155,.d (.int .i64 (((ivs K).length:Nat)))),(156,.d (.int .i64 ((k:Nat))))],[.cbox [.int .i64 f.1,.int .i64 f.2,.slice 2 (ivs ms)],.none,.none,.none,.none,.none,.none,.none,.row 155 2 (ans A) false,.none,.none,.none,.none,.none,.none,.none,.none,.none,.none,.none,.none,.none,.none,.none]⟩) (fun k=>k≤u.length) (fun k=>u.length - k) 0 rfl (Nat.zero_le _) ?_
 intro k hk
 have hk:k≤u.length:=hk
 dsimp only
 by_cases hkn:k < u.length
 ·obtain ⟨y,hy,⟨y1,y2⟩,y3,y4⟩:=hin k hkn
  have hy1:=ivs_at hy
  have hu1:(ints u)[((k:Nat):Int).toNat]?=some (.int .i64 (uGet u k)):=by
   show (u.map _)[k]?=_
   unfold uGet
   rw [List.getElem?_map,List.getElem?_eq_getElem hkn]; rfl
  have fin:∃ a':Nat,(a'≤u.length∧u.length - a' < u.length - k)∧(⟨[(0,.d (.slice 1 (ints u))),(1,.d (.slice 1 (iss L))),(5,.ptr 0 0),(7,.sl 8 (ans A).length),(8,.d (.slice 2 (ivs B))),(9,.d (.int .i64 ((q:Nat):Int))),(16,.d (.slice 2 (ivs K))),(82,.d (.slice 1 (iss L))),(83,.d (.int .i64 (((iss L).length:Nat)))),(84,.d (.int .i64 ((q:Nat):Int))),(154,.d (.slice 2 (ivs K))),(155,.d (.int .i64 (((ivs K).length:Nat)))),(156,.d (.int .i64 (((k:Int)+1))))],[.cbox [.int .i64 f.1,.int .i64 f.2,.slice 2 (ivs ms)],.none,.none,.none,.none,.none,.none,.none,.row 155 2 (ans A) false,.none,.none,.none,.none,.none,.none,.none,.none,.none,.none,.none,.none,.none,.none,.none]⟩:St)=⟨[(0,.d (.slice 1 (ints u))),(1,.d (.slice 1 (iss L))),(5,.ptr 0 0),(7,.sl 8 (ans A).length),(8,.d (.slice 2 (ivs B))),(9,.d (.int .i64 ((q:Nat):Int))),(16,.d (.slice 2 (ivs K))),(82,.d (.slice 1 (iss L))),(83,.d (.int .i64 (((iss L).length:Nat)))),(84,.d (.int .i64 ((q:Nat):Int))),(154,.d (.slice 2 (ivs K))),(155,.d (.int .i64 (((ivs K).length:Nat)))),(156,.d (.int .i64 ((a':Nat))))],[.cbox [.int .i64 f.1,.int .i64 f.2,.slice 2 (ivs ms)],.none,.none,.none,.none,.none,.none,.none,.row 155 2 (ans A) false,.none,.none,.none,.none,.none,.none,.none,.none,.none,.none,.none,.none,.none,.none,.none]⟩:=⟨k+1,⟨by omega,by omega⟩,rfl⟩
  generalize uGet u k=x at *
  rcases Nat.eq_zero_or_pos q with hq | hq
  ·clear hbf hin
   refine sd ?_
   refine b_lt (fun t1=>?_) (fun t1=>?_)
   refine ix_at hy1 ?_ ?_
   (show (0:Int)≤(↑k:Int); omega)
   refine ix_at hu1 ?_ ?_
   (show (0:Int)≤(↑k:Int); omega)
   refine sd ?_
   refine b_lt (fun t2=>?_) (fun t2=>?_)
   (exfalso; omega)
   refine ix_at hu1 ?_ ?_
   (show (0:Int)≤(↑k:Int); omega)
   refine sd ?_
   refine b_lt (fun t3=>?_) (fun t3=>?_)
   (exfalso; omega)
   refine sd ?_
   refine b_lt (fun t4=>?_) (fun t4=>?_)
   (exfalso; omega)
   refine sd ?_
   refine b_lt (fun t5=>?_) (fun t5=>?_)
   (exfalso; omega)
   refine sd ?_
   refine b_lt (fun t6=>?_) (fun t6=>?_)
   (exfalso; omega)
   refine sd ?_
   refine ar_add ?_ ?_
   refine an ?_ ?_
   (show (-9223372036854775808:Int)≤(↑k:Int)+(1:Int); omega)
   (show (↑k:Int)+(1:Int)≤(9223372036854775807:Int); omega)
   rotate_left
   (exfalso; omega)
   all_goals exact fin
  ·obtain ⟨z,hz,z1,z2⟩:=hbf hq k y hkn hy
   have hz1:=ivs_at hz
   clear hbf hin
   refine sd ?_
   refine b_lt (fun t1=>?_) (fun t1=>?_)
   refine ix_at hy1 ?_ ?_
   (show (0:Int)≤(↑k:Int); omega)
   refine ix_at hu1 ?_ ?_
   (show (0:Int)≤(↑k:Int); omega)
   refine sd ?_
   refine b_lt (fun t2=>?_) (fun t2=>?_)
   (exfalso; omega)
   refine ix_at hu1 ?_ ?_
   (show (0:Int)≤(↑k:Int); omega)
   refine sd ?_
   refine b_lt (fun t3=>?_) (fun t3=>?_)
   (exfalso; omega)
   refine sd ?_
   refine b_lt (fun t4=>?_) (fun t4=>?_)
   (exfalso; omega)
   refine sd ?_
   refine b_lt (fun t5=>?_) (fun t5=>?_)
   (exfalso; omega)
   refine sd ?_
   refine b_lt (fun t6=>?_) (fun t6=>?_)
   refine ix_at hz1 ?_ ?_
   (show (0:Int)≤(↑k:Int); omega)
   refine sd ?_
   refine b_lt (fun t7=>?_) (fun t7=>?_)
   (exfalso; omega)
   refine ix_at hz1 ?_ ?_
   (show (0:Int)≤(↑k:Int); omega)
   refine sd ?_
   refine b_lt (fun t8=>?_) (fun t8=>?_)
   (exfalso; omega)
   refine ar_add ?_ ?_
   refine an ?_ ?_
   (show (-9223372036854775808:Int)≤(↑k:Int)+(1:Int); omega)
   (show (↑k:Int)+(1:Int)≤(9223372036854775807:Int); omega)
   rotate_left
   (exfalso; omega)
   (exfalso; omega)
   all_goals exact fin
 ·have e:k=u.length:=by omega
  subst e
  refine sd ?_
  refine b_lt (fun t1=>?_) (fun t1=>?_)
  (exfalso; omega)
  rotate_left
  exact hQ
end Vc
set_option maxRecDepth 10000
set_option maxHeartbeats 4000000
namespace Vc
open Go Go.Proofs
@[irreducible] def seg10x0 (s2 s4:ACode):ACode:=(.post [0,1,5] [0,1,2,3,4,5,6,7,8,9,10,11,12,13]
 (.block 0
 (.asrow 8 155 2 7
 (.keep [0,1,5,7,8,82,83,84] [0]
 (.loop
 (.post [0,1,5,7,8,82,83,84] [1,2,3,4,5,6,7,8,9,10,11,12,13]
 (.seq
 (.reg [] [⟨some 85,.cmp .lss (.tmp 84) (.tmp 83),none⟩])
 (.seq
 (.cond (.tmp 85)
 .skip
 (.exit 0))
 (.seq
 (.block 1
 (.seq
 (.reg [] [⟨some 86,.mov (.tmp 84),none⟩,
 ⟨some 87,.ixa 1 (.tmp 82) (.tmp 84),none⟩,
 ⟨some 88,.ld false 1 (.tmp 87),none⟩,
 ⟨some 9,.mov (.tmp 86),none⟩,
 ⟨some 10,.mov (.tmp 88),none⟩])
 (.seq
 (.reg [1,2,3,4] [⟨some 90,.bsl 1 3 1 0 [] [],none⟩,
 ⟨some 91,.mov (.tmp 0),none⟩,
 ⟨some 92,.app 2 3 1 8 (.tmp 90) (.tmp 91),none⟩,
 ⟨some 93,.bsl 3 3 1 0 [] [],none⟩,
 ⟨some 94,.mov (.tmp 10),none⟩,
 ⟨some 95,.app 4 3 1 8 (.tmp 93) (.tmp 94),none⟩,
 ⟨some 96,.call 39 [(.tmp 92),(.tmp 95)],none⟩,
 ⟨some 89,.mov (.tmp 96),none⟩,
 ⟨some 97,.ext 0 (.tmp 89),none⟩,
 ⟨some 98,.ext 1 (.tmp 89),none⟩,
 ⟨some 11,.mov (.tmp 97),none⟩,
 ⟨some 12,.mov (.tmp 98),none⟩])
 (.seq
 (.seq
 (.reg [] [⟨some 99,.mov (.tmp 12),none⟩,
 ⟨some 100,.cmp .neq (.tmp 99) (.cst (.d (.int .i64 0))),none⟩,
 ⟨some 101,.mov (.tmp 100),none⟩,
 ⟨some 102,.mov (.tmp 11),some (101,false)⟩,
 ⟨some 103,.cmp .lss (.tmp 102) (.cst (.d (.int .i64 0))),some (101,false)⟩,
 ⟨some 104,.pick (.tmp 101) (.cst (.d (.bool true))) (.tmp 103),none⟩,
 ⟨some 105,.mov (.tmp 104),none⟩,
 ⟨some 106,.mov (.tmp 11),some (105,false)⟩,
 ⟨some 107,.cmp .gtr (.tmp 106) (.cst (.d (.int .i64 35))),some (105,false)⟩,
 ⟨some 108,.pick (.tmp 105) (.cst (.d (.bool true))) (.tmp 107),none⟩])
 (.cond (.tmp 108)
 (.seq
 (.reg [] [⟨some 6,.mov (.cst (.d (.bool false))),none⟩])
 .ret)
 .skip))
 (.seq
 (.reg [5,6,7,8] [⟨some 109,.mov (.tmp 7),none⟩,
 ⟨some 110,.bsl 5 3 1 0 [] [],none⟩,
 ⟨some 111,.mov (.tmp 10),none⟩,
 ⟨some 112,.app 6 3 1 8 (.tmp 110) (.tmp 111),none⟩,
 ⟨some 113,.mov (.tmp 11),none⟩,
 ⟨some 114,.build [(.nils 1),(.d (.int .i64 0))] [(0,1,(.tmp 112)),(1,1,(.tmp 113))],none⟩,
 ⟨some 115,.bsl 7 155 2 1 [(.agg [(.slice 1 []),(.int .i64 0)])] [(0,(.tmp 114))],none⟩,
 ⟨some 116,.app 8 155 2 32 (.tmp 109) (.tmp 115),none⟩,
 ⟨some 7,.mov (.tmp 116),none⟩])
 (.seq
 (.reg [9] [⟨some 117,.mov (.tmp 7),none⟩,
 ⟨some 118,.len (.tmp 117),none⟩,
 ⟨some 119,.msl 9 155 2 32 (.agg [(.slice 1 []),(.int .i64 0)]) (.tmp 118),none⟩,
 ⟨some 13,.mov (.tmp 119),none⟩])
 (.seq
 (.seq
 (.reg [] [⟨some 120,.mov (.tmp 7),none⟩,
 ⟨some 121,.len (.tmp 120),none⟩,
 ⟨some 122,.mov (.cst (.d (.int .i64 0))),none⟩])
 (.keep [0,1,5,7,8,9,13,82,83,84,120,121,122] [1,2,3,4,5,6,7] s2))
 (.seq
 (.reg [] [⟨some 139,.mov (.tmp 0),none⟩,
 ⟨some 140,.len (.tmp 139),none⟩,
 ⟨some 141,.mov (.tmp 13),none⟩,
 ⟨some 142,.call 48 [(.tmp 140),(.cst (.d (.int .i64 7))),(.tmp 141)],none⟩,
 ⟨some 138,.mov (.tmp 142),none⟩,
 ⟨some 143,.ext 0 (.tmp 138),none⟩,
 ⟨some 144,.ext 1 (.tmp 138),none⟩,
 ⟨some 16,.mov (.tmp 143),none⟩,
 ⟨some 17,.mov (.tmp 144),none⟩])
 (.seq
 (.seq
 (.reg [] [⟨some 145,.mov (.tmp 17),none⟩,
 ⟨some 146,.cmp .neq (.tmp 145) (.cst (.d (.int .i64 0))),none⟩,
 ⟨some 147,.mov (.tmp 146),none⟩,
 ⟨some 148,.mov (.tmp 16),some (147,false)⟩,
 ⟨some 149,.len (.tmp 148),some (147,false)⟩,
 ⟨some 150,.mov (.tmp 0),some (147,false)⟩,
 ⟨some 151,.len (.tmp 150),some (147,false)⟩,
 ⟨some 152,.cmp .neq (.tmp 149) (.tmp 151),some (147,false)⟩,
 ⟨some 153,.pick (.tmp 147) (.cst (.d (.bool true))) (.tmp 152),none⟩])
 (.cond (.tmp 153)
 (.seq
 (.reg [] [⟨some 6,.mov (.cst (.d (.bool false))),none⟩])
 .ret)
 .skip))
 (.seq
 (.seq
 (.reg [] [⟨some 154,.mov (.tmp 16),none⟩,
 ⟨some 155,.len (.tmp 154),none⟩,
 ⟨some 156,.mov (.cst (.d (.int .i64 0))),none⟩])
 (.keep [0,1,5,7,8,9,16,82,83,84,154,155,156] [1,2,3,4,5,6,7,9] s4))
 (.reg [] [⟨some 212,.mov (.tmp 16),none⟩,
 ⟨some 8,.mov (.tmp 212),none⟩])))))))))))
 (.reg [] [⟨some 213,.arith .add .i64 (.tmp 84) (.cst (.d (.int .i64 1))),none⟩,
 ⟨some 84,.mov (.tmp 213),none⟩]))))))))))
def bfK (u:List Int) (L:List (List Int)):Nat→List (Int × Int)
 | 0=>[]
 | k+1=>kU u (anS u (L.take (k+1)))
theorem v10a {s2 s4 : ACode} {N : Nat} {u : List Int} {L : List (List Int)} {f : Int × Int} {ms : List (Int × Int)} (hu : ∀ x ∈ u, 0 ≤ x ∧ x ≤ 7) (hul : 1 ≤ u.length ∧ u.length ≤ 5) (hsA : sumA u = 0) (hL : ∀ s ∈ L, setE (u.length : Int) s = 0) (hL5 : L.length ≤ 5) (hLs : ∀ s ∈ L, s.length ≤ 1048576)
  (hv2:∀ (A:List An) (B:List (Int × Int)) (q:Int),A.length≤16→(∀ x∈A,x.set.length≤1048576)→∀ Q:AExit→St→Prop,Q .normal ⟨[(0,.d (.slice 1 (ints u))),(1,.d (.slice 1 (iss L))),(5,.ptr 0 0),(7,.sl 8 (ans A).length),(8,.d (.slice 2 (ivs B))),(9,.d (.int .i64 (q))),(13,.sl 9 (ans A).length),(82,.d (.slice 1 (iss L))),(83,.d (.int .i64 (((iss L).length:Nat)))),(84,.d (.int .i64 (q)))],[.cbox [.int .i64 f.1,.int .i64 f.2,.slice 2 (ivs ms)],.none,.none,.none,.none,.none,.none,.none,.row 155 2 (ans A) false,.row 155 2 (ans A) false,.none,.none,.none,.none,.none,.none,.none,.none,.none,.none,.none,.none,.none,.none]⟩→vc Tryz.prog N s2 ⟨[(0,.d (.slice 1 (ints u))),(1,.d (.slice 1 (iss L))),(5,.ptr 0 0),(7,.sl 8 (ans A).length),(8,.d (.slice 2 (ivs B))),(9,.d (.int .i64 (q))),(13,.sl 9 (ans A).length),(82,.d (.slice 1 (iss L))),(83,.d (.int .i64 (((iss L).length:Nat)))),(84,.d (.int .i64 (q))),(120,.sl 8 (ans A).length),(121,.d (.int .i64 (((ans A).length:Nat)))),(122,.d (.int .i64 (0)))],[.cbox [.int .i64 f.1,.int .i64 f.2,.slice 2 (ivs ms)],.none,.none,.none,.none,.none,.none,.none,.row 155 2 (ans A) false,.row 155 2 (List.replicate (ans A).length (Data.agg [.slice 1 [],.int .i64 0])) false,.none,.none,.none,.none,.none,.none,.none,.none,.none,.none,.none,.none,.none,.none]⟩ Q)
  (hv4:∀ (A:List An) (K B:List (Int × Int)) (q:Nat),K.length=u.length→(∀ j,j < u.length→∃ y,K[j]?=some y∧(0≤y.1∧y.2≤7)∧y.1≤uGet u j∧uGet u j≤y.2)→(0 < q→∀ (j:Nat) (y:Int × Int),j < u.length→K[j]?=some y→∃ z,B[j]?=some z∧z.1≤y.1∧y.2≤z.2)→∀ Q:AExit→St→Prop,Q .normal ⟨[(0,.d (.slice 1 (ints u))),(1,.d (.slice 1 (iss L))),(5,.ptr 0 0),(7,.sl 8 (ans A).length),(16,.d (.slice 2 (ivs K))),(82,.d (.slice 1 (iss L))),(83,.d (.int .i64 (((iss L).length:Nat)))),(84,.d (.int .i64 ((q:Nat):Int)))],[.cbox [.int .i64 f.1,.int .i64 f.2,.slice 2 (ivs ms)],.none,.none,.none,.none,.none,.none,.none,.row 155 2 (ans A) false,.none,.none,.none,.none,.none,.none,.none,.none,.none,.none,.none,.none,.none,.none,.none]⟩→vc Tryz.prog N s4 ⟨[(0,.d (.slice 1 (ints u))),(1,.d (.slice 1 (iss L))),(5,.ptr 0 0),(7,.sl 8 (ans A).length),(8,.d (.slice 2 (ivs B))),(9,.d (.int .i64 ((q:Nat):Int))),(16,.d (.slice 2 (ivs K))),(82,.d (.slice 1 (iss L))),(83,.d (.int .i64 (((iss L).length:Nat)))),(84,.d (.int .i64 ((q:Nat):Int))),(154,.d (.slice 2 (ivs K))),(155,.d (.int .i64 (((ivs K).length:Nat)))),(156,.d (.int .i64 (0)))],[.cbox [.int .i64 f.1,.int .i64 f.2,.slice 2 (ivs ms)],.none,.none,.none,.none,.none,.none,.none,.row 155 2 (ans A) false,.none,.none,.none,.none,.none,.none,.none,.none,.none,.none,.none,.none,.none,.none,.none]⟩ Q)
  {Q:AExit→St→Prop} (hQ:Q .normal ⟨[(0,.d (.slice 1 (ints u))),(1,.d (.slice 1 (iss L))),(5,.ptr 0 0)],[.cbox [.int .i64 f.1,.int .i64 f.2,.slice 2 (ivs ms)],.none,.none,.none,.none,.none,.none,.none,.none,.none,.none,.none,.none,.none,.none,.none,.none,.none,.none,.none,.none,.none,.none,.none]⟩):vc Tryz.prog N (seg10x0 s2 s4) ⟨[(0,.d (.slice 1 (ints u))),(1,.d (.slice 1 (iss L))),(5,.ptr 0 0),(7,.nils 2),(8,.d (.slice 2 (ivs ([])))),(82,.d (.slice 1 (iss L))),(83,.d (.int .i64 (((iss L).length:Nat)))),(84,.d (.int .i64 (0)))],[.cbox [.int .i64 f.1,.int .i64 f.2,.slice 2 (ivs ms)],.none,.none,.none,.none,.none,.none,.none,.none,.none,.none,.none,.none,.none,.none,.none,.none,.none,.none,.none,.none,.none,.none,.none]⟩ Q:=by
 unfold seg10x0
 have hlL:=iss_len L
 have hlu:=ints_len u
 refine loop_st (fun k:Nat=>⟨[(0,.d (.slice 1 (ints u))),(1,.d (.slice 1 (iss L))),(5,.ptr 0 0),(7,.sl 8 (ans (anS u (L.take k))).length),(8,.d (.slice 2 (ivs (bfK u L k)))),(82,.d (.slice 1 (iss L))),(83,.d (.int .i64 (((iss L).length:Nat)))),(84,.d (.int .i64 ((k:Nat))))],[.cbox [.int .i64 f.1,.int .i64 f.2,.slice 2 (ivs ms)],.none,.none,.none,.none,.none,.none,.none,.row 155 2 (ans (anS u (L.take k))) false,.none,.none,.none,.none,.none,.none,.none,.none,.none,.none,.none,.none,.none,.none,.none]⟩) (fun k=>k≤L.length) (fun k=>L.length - k) 0 rfl (Nat.zero_le _) ?_
 intro k hk
 have hk:k≤L.length:=hk
 have hlA:(ans (anS u (L.take k))).length=k:=by rw [ans_len,anS_len,List.length_take]; omega
 dsimp only
 by_cases hkn:k < L.length
 ·refine Exists.elim (get_lt L hkn) fun s hx=>?_
  have hsL:=List.mem_of_getElem? hx
  have hx1:=iss_at hx
  have hls:=ints_len s
  have hs1:=hL s hsL
  have hs2:=hLs s hsL
  have hsum:=sum_ok hu hul.2 hs1
  have c39_:=c39 u s (by omega) hs2
  rw [sumE_0 hsA hu hs1] at c39_
  have c39_:CallDet Tryz.prog 39 [.d (.slice 1 (ints u)),.d (.slice 1 (ints s))] [.int .i64 (sumL (uAt u) s),.int .i64 0]:=c39_
  have hst:anS u (L.take (k+1))=anS u (L.take k)++[⟨s,sumL (uAt u) s⟩]:=by rw [take_one hx,anS_snoc]
  have hall:∀ x∈anS u (L.take (k+1)),(setE (u.length:Int) x.set=0∧(0≤x.sum∧x.sum≤35))∧x.set.length≤1048576:=fun x hx=>by
   obtain ⟨o,ho,rfl⟩:=List.mem_map.1 hx
   have ho:=List.mem_of_mem_take ho
   exact ⟨⟨hL o ho,sum_ok hu hul.2 (hL o ho)⟩,hLs o ho⟩
  have hlA1:(anS u (L.take (k+1))).length=k+1:=by rw [anS_len,List.length_take]; omega
  have hkn1:=kn_U (ansE_0 (by omega) (by omega) fun x hx=>(hall x hx).1) hu (right_S u (L.take (k+1)))
  have c48_:=c48 (u.length:Int) 7 (anS u (L.take (k+1))) (by omega) fun x hx=>(hall x hx).2
  rw [hkn1.1,hkn1.2] at c48_
  have hKl:(ivs (kU u (anS u (L.take (k+1))))).length=u.length:=by rw [ivs_len,kU_len]
  have hva:=fun (B:List (Int × Int)) (Q:AExit→St→Prop)=>hv2 (anS u (L.take (k+1))) B (k:Int) (by omega) (fun x hx=>(hall x hx).2) Q
  have hvb:=fun (Q:AExit→St→Prop)=>hv4 (anS u (L.take (k+1))) (kU u (anS u (L.take (k+1)))) (bfK u L k) k (kU_len _ _) (fun j hj=>by
   obtain ⟨y,h1,h2⟩:=kU_in hu (right_S u (L.take (k+1))) hj
   exact ⟨y,h1,by have:=kU_rng h1; omega,h2⟩) (fun hq j y hj hy=>by
   obtain ⟨k',rfl⟩:∃ k',k=k'+1:=⟨k - 1,by omega⟩
   rw [hst] at hy
   obtain ⟨z,h1,_⟩:=kU_in (l:=anS u (L.take (k'+1))) hu (right_S u _) hj
   exact ⟨z,h1,kU_mono hu (by rw [← hst]; exact right_S u _) hj h1 hy⟩) Q
  have hA1:ans (anS u (L.take (k+1)))=ans (anS u (L.take k))++[Data.agg [.slice 1 (ints s),.int .i64 (sumL (uAt u) s)]]:=by rw [hst]; unfold ans; rw [List.map_append]; rfl
  have fin:∃ a':Nat,(a'≤L.length∧L.length - a' < L.length - k)∧(⟨[(0,.d (.slice 1 (ints u))),(1,.d (.slice 1 (iss L))),(5,.ptr 0 0),(7,.sl 8 (ans (anS u (L.take (k+1)))).length),(8,.d (.slice 2 (ivs (kU u (anS u (L.take (k+1))))))),(82,.d (.slice 1 (iss L))),(83,.d (.int .i64 (((iss L).length:Nat)))),(84,.d (.int .i64 (((k:Int)+1))))],[.cbox [.int .i64 f.1,.int .i64 f.2,.slice 2 (ivs ms)],.none,.none,.none,.none,.none,.none,.none,.row 155 2 (ans (anS u (L.take (k+1)))) false,.none,.none,.none,.none,.none,.none,.none,.none,.none,.none,.none,.none,.none,.none,.none]⟩:St)=⟨[(0,.d (.slice 1 (ints u))),(1,.d (.slice 1 (iss L))),(5,.ptr 0 0),(7,.sl 8 (ans (anS u (L.take a'))).length),(8,.d (.slice 2 (ivs (bfK u L a')))),(82,.d (.slice 1 (iss L))),(83,.d (.int .i64 (((iss L).length:Nat)))),(84,.d (.int .i64 ((a':Nat))))],[.cbox [.int .i64 f.1,.int .i64 f.2,.slice 2 (ivs ms)],.none,.none,.none,.none,.none,.none,.none,.row 155 2 (ans (anS u (L.take a'))) false,.none,.none,.none,.none,.none,.none,.none,.none,.none,.none,.none,.none,.none,.none,.none]⟩:=⟨k+1,⟨by omega,by omega⟩,rfl⟩
  have c48_:CallDet Tryz.prog 48 [.d (.int .i64 (((ints u).length:Nat):Int)),.d (.int .i64 7),.d (.slice 2 (ans (anS u (L.take (k+1)))))] [.slice 2 (ivs (kU u (anS u (L.take (k+1))))),.int .i64 0]:=by rw [hlu]; exact c48_
  rw [hA1] at c48_ hva hvb fin
  clear hv2 hv4 hall hkn1 hst hL hLs hu hsA hQ hA1
  generalize kU u (anS u (L.take (k+1)))=K at *
  generalize bfK u L k=B at *
  generalize ans (anS u (L.take k))=W at *
  generalize sumL (uAt u) s=n at *
  refine sd ?_
  refine b_lt (fun t1=>?_) (fun t1=>?_)
  refine ix_at hx1 ?_ ?_
  (show (0:Int)≤(↑k:Int); omega)
  refine sd ?_
  refine sd ?_
  refine an ?_ ?_
  refine an ?_ ?_
  exact rfl
  refine an ?_ ?_
  exact rfl
  refine an ?_ ?_
  exact rfl
  refine an ?_ ?_
  (show ((0:Nat)+List.length (ints u)) * (8:Nat)≤(2:Nat) ^ (47:Nat); omega)
  (show (0:Nat)+List.length (ints u)≤(2:Nat) ^ (47:Nat); omega)
  refine sd ?_
  refine sd ?_
  refine an ?_ ?_
  refine an ?_ ?_
  exact rfl
  refine an ?_ ?_
  exact rfl
  refine an ?_ ?_
  exact rfl
  refine an ?_ ?_
  (show ((0:Nat)+List.length (ints s)) * (8:Nat)≤(2:Nat) ^ (47:Nat); omega)
  (show (0:Nat)+List.length (ints s)≤(2:Nat) ^ (47:Nat); omega)
  refine sd ?_
  refine sd ?_
  refine ca c39_ ?_
  refine sd ?_
  refine sd ?_
  refine b_lt (fun t2=>?_) (fun t2=>?_)
  (exfalso; omega)
  refine sd ?_
  refine b_lt (fun t3=>?_) (fun t3=>?_)
  (exfalso; omega)
  refine sd ?_
  refine sd ?_
  refine an ?_ ?_
  refine an ?_ ?_
  exact rfl
  refine an ?_ ?_
  exact rfl
  refine an ?_ ?_
  exact rfl
  refine an ?_ ?_
  (show ((0:Nat)+List.length (ints s)) * (8:Nat)≤(2:Nat) ^ (47:Nat); omega)
  (show (0:Nat)+List.length (ints s)≤(2:Nat) ^ (47:Nat); omega)
  refine sd ?_
  refine sd ?_
  refine sd ?_
  refine sd ?_
  refine sd ?_
  refine an ?_ ?_
  refine an ?_ ?_
  exact rfl
  refine an ?_ ?_
  exact rfl
  refine an ?_ ?_
  exact rfl
  refine an ?_ ?_
  (show (List.length W+(1:Nat)) * (32:Nat)≤(2:Nat) ^ (47:Nat); omega)
  (show List.length W+(1:Nat)≤(2:Nat) ^ (47:Nat); omega)
  refine sd ?_
  refine an ?_ ?_
  refine an ?_ ?_
  (show (0:Int)≤(↑(List.length (W++[Data.agg [Data.slice (1:Nat) ([]++ints s),Data.int IntKind.i64 n]])):Int); omega)
  refine an ?_ ?_
  rotate_left
  rotate_left
  refine sd ?_
  refine hva _ _ ?_
  refine sd ?_
  refine ca c48_ ?_
  refine sd ?_
  refine sd ?_
  refine b_ne (fun t4=>?_) (fun t4=>?_)
  (exfalso; omega)
  refine hvb _ ?_
  refine ar_add ?_ ?_
  refine an ?_ ?_
  (show (-9223372036854775808:Int)≤(↑k:Int)+(1:Int); omega)
  (show (↑k:Int)+(1:Int)≤(9223372036854775807:Int); omega)
  rotate_left
  (exfalso; omega)
  ·rw [List.length_append,hlA,List.length_set]; show ((k+1:Nat):Int) * ((32:Nat):Int)≤2 ^ 47; omega
  ·rw [List.length_append,hlA,List.length_set]; show ((k+1:Nat):Int)≤2 ^ 47; omega
  ·exact fin
 ·have e:k=L.length:=by omega
  subst e
  refine sd ?_
  refine b_lt (fun t1=>?_) (fun t1=>?_)
  (exfalso; omega)
  rotate_left
  exact hQ
end Vc
set_option maxRecDepth 10000
set_option maxHeartbeats 4000000
namespace Vc
open Go Go.Proofs
@[irreducible] def seg10x6:ACode:=(.post [0,1,5,20,21] [0,1,2,3,4,5,6,7,8,9,10,11,12,13,14,15]
 (.block 6
 (.asrow 15 3 1 21
 (.keep [0,1,5,20,21,214,215,216] [0,1,2,3,4,5,6,7,8,9,10,11,12,13]
 (.loop
 (.post [0,1,5,20,21,214,215,216] [14,15]
 (.seq
 (.reg [] [⟨some 217,.cmp .lss (.tmp 216) (.tmp 215),none⟩])
 (.seq
 (.cond (.tmp 217)
 .skip
 (.exit 6))
 (.seq
 (.block 7
 (.seq
 (.reg [] [⟨some 218,.mov (.tmp 216),none⟩,
 ⟨some 219,.ixa 1 (.tmp 214) (.tmp 216),none⟩,
 ⟨some 220,.ld false 1 (.tmp 219),none⟩,
 ⟨some 22,.mov (.tmp 218),none⟩,
 ⟨some 23,.mov (.tmp 220),none⟩])
 (.reg [14,15] [⟨some 221,.mov (.tmp 21),none⟩,
 ⟨some 222,.mov (.tmp 22),none⟩,
 ⟨some 223,.bsl 14 3 1 1 [(.int .i64 0)] [(0,(.tmp 222))],none⟩,
 ⟨some 224,.app 15 3 1 8 (.tmp 221) (.tmp 223),none⟩,
 ⟨some 225,.mov (.tmp 20),none⟩,
 ⟨some 226,.mov (.tmp 23),none⟩,
 ⟨some 227,.arith .add .i64 (.tmp 225) (.tmp 226),none⟩,
 ⟨some 21,.mov (.tmp 224),none⟩,
 ⟨some 20,.mov (.tmp 227),none⟩])))
 (.reg [] [⟨some 228,.arith .add .i64 (.tmp 216) (.cst (.d (.int .i64 1))),none⟩,
 ⟨some 216,.mov (.tmp 228),none⟩]))))))))))
@[irreducible] def seg10x8:ACode:=(.post [0,1,5] [0,1,2,3,4,5,6,7,8,9,10,11,12,13,14,15,16,17]
 (.block 8
 (.keep [0,1,5,20,248,249,250] [0,1,2,3,4,5,6,7,8,9,10,11,12,13,14,15,16]
 (.loop
 (.post [0,1,5,20,248,249,250] [17]
 (.seq
 (.reg [] [⟨some 251,.cmp .lss (.tmp 250) (.tmp 249),none⟩])
 (.seq
 (.cond (.tmp 251)
 .skip
 (.exit 8))
 (.seq
 (.block 9
 (.seq
 (.reg [17] [⟨some 252,.ixa 2 (.tmp 248) (.tmp 250),none⟩,
 ⟨some 253,.ld true 2 (.tmp 252),none⟩,
 ⟨some 27,.alloc 17 [(.d (.int .i64 0)),(.d (.int .i64 0))],none⟩,
 ⟨none,.st 2 (.tmp 27) (.tmp 253),none⟩])
 (.seq
 (.reg [] [⟨some 254,.fad 0 (.tmp 27),none⟩,
 ⟨some 255,.ld false 1 (.tmp 254),none⟩,
 ⟨some 256,.mov (.tmp 20),none⟩,
 ⟨some 257,.mov (.tmp 0),none⟩,
 ⟨some 258,.len (.tmp 257),none⟩,
 ⟨some 259,.arith .sub .i64 (.tmp 258) (.cst (.d (.int .i64 1))),none⟩,
 ⟨some 260,.arith .mul .i64 (.cst (.d (.int .i64 7))) (.tmp 259),none⟩,
 ⟨some 261,.arith .sub .i64 (.tmp 256) (.tmp 260),none⟩,
 ⟨some 262,.maxi (.cst (.d (.int .i64 0))) (.tmp 261),none⟩,
 ⟨some 263,.cmp .neq (.tmp 255) (.tmp 262),none⟩,
 ⟨some 264,.mov (.tmp 263),none⟩,
 ⟨some 265,.fad 1 (.tmp 27),some (264,false)⟩,
 ⟨some 266,.ld false 1 (.tmp 265),some (264,false)⟩,
 ⟨some 267,.mov (.tmp 20),some (264,false)⟩,
 ⟨some 268,.mini (.cst (.d (.int .i64 7))) (.tmp 267),some (264,false)⟩,
 ⟨some 269,.cmp .neq (.tmp 266) (.tmp 268),some (264,false)⟩,
 ⟨some 270,.pick (.tmp 264) (.cst (.d (.bool true))) (.tmp 269),none⟩])
 (.cond (.tmp 270)
 (.seq
 (.reg [] [⟨some 6,.mov (.cst (.d (.bool false))),none⟩])
 .ret)
 .skip))))
 (.reg [] [⟨some 271,.arith .add .i64 (.tmp 250) (.cst (.d (.int .i64 1))),none⟩,
 ⟨some 250,.mov (.tmp 271),none⟩])))))))))
@[irreducible] def seg10x14:ACode:=(.post [0,5,28,30,35,272,273,274,301,302,303] [0,1,2,3,4,5,6,7,8,9,10,11,12,13,14,15,16,17,18,19]
 (.block 14
 (.keep [0,5,28,30,34,35,272,273,274,301,302,303,308,309] [0,1,2,3,4,5,6,7,8,9,10,11,12,13,14,15,16,17,18,19]
 (.loop
 (.post [0,5,28,30,34,35,272,273,274,301,302,303,308,309] []
 (.seq
 (.reg [] [⟨some 310,.cmp .lss (.tmp 309) (.tmp 308),none⟩])
 (.seq
 (.cond (.tmp 310)
 .skip
 (.exit 14))
 (.seq
 (.block 15
 (.seq
 (.reg [] [⟨some 311,.mov (.tmp 309),none⟩,
 ⟨some 36,.mov (.tmp 311),none⟩])
 (.seq
 (.reg [] [⟨some 312,.mov (.tmp 34),none⟩,
 ⟨some 313,.mov (.tmp 36),none⟩,
 ⟨some 314,.call 94 [(.tmp 312),(.tmp 313)],none⟩,
 ⟨some 315,.mov (.tmp 30),none⟩,
 ⟨some 316,.mov (.tmp 36),none⟩,
 ⟨some 317,.call 94 [(.tmp 315),(.tmp 316)],none⟩,
 ⟨some 318,.beq true (.tmp 314) (.tmp 317),none⟩])
 (.cond (.tmp 318)
 (.reg [] [⟨some 319,.mov (.tmp 35),none⟩,
 ⟨some 320,.arith .add .i64 (.tmp 319) (.cst (.d (.int .i64 1))),none⟩,
 ⟨some 35,.mov (.tmp 320),none⟩])
 .skip))))
 (.reg [] [⟨some 321,.arith .add .i64 (.tmp 309) (.cst (.d (.int .i64 1))),none⟩,
 ⟨some 309,.mov (.tmp 321),none⟩])))))))))
@[irreducible] def seg10x12 (s14:ACode):ACode:=(.post [0,5,28,30,272,273,274] [0,1,2,3,4,5,6,7,8,9,10,11,12,13,14,15,16,17,18,19]
 (.block 12
 (.keep [0,5,28,30,272,273,274,301,302,303] [0,1,2,3,4,5,6,7,8,9,10,11,12,13,14,15,16,17,18,19]
 (.loop
 (.post [0,5,28,30,272,273,274,301,302,303] []
 (.seq
 (.reg [] [⟨some 304,.cmp .lss (.tmp 303) (.tmp 302),none⟩])
 (.seq
 (.cond (.tmp 304)
 .skip
 (.exit 12))
 (.seq
 (.block 13
 (.seq
 (.reg [] [⟨some 305,.ixa 1 (.tmp 301) (.tmp 303),none⟩,
 ⟨some 306,.ld false 1 (.tmp 305),none⟩,
 ⟨some 34,.mov (.tmp 306),none⟩])
 (.seq
 (.reg [] [⟨some 35,.mov (.cst (.d (.int .i64 0))),none⟩])
 (.seq
 (.seq
 (.reg [] [⟨some 307,.mov (.tmp 0),none⟩,
 ⟨some 308,.len (.tmp 307),none⟩,
 ⟨some 309,.mov (.cst (.d (.int .i64 0))),none⟩])
 (.keep [0,5,28,30,34,35,272,273,274,301,302,303,308,309] [18,19,20] s14))
 (.seq
 (.reg [] [⟨some 322,.mov (.tmp 35),none⟩,
 ⟨some 323,.cmp .eql (.tmp 322) (.cst (.d (.int .i64 1))),none⟩])
 (.cond (.tmp 323)
 (.seq
 (.reg [] [⟨some 6,.mov (.cst (.d (.bool false))),none⟩])
 .ret)
 .skip))))))
 (.reg [] [⟨some 324,.arith .add .i64 (.tmp 303) (.cst (.d (.int .i64 1))),none⟩,
 ⟨some 303,.mov (.tmp 324),none⟩])))))))))
@[irreducible] def seg10x10 (s12:ACode):ACode:=(.post [5] [0,1,2,3,4,5,6,7,8,9,10,11,12,13,14,15,16,17,18,19,20,21]
 (.block 10
 (.asrow 21 28 1 28
 (.keep [0,5,28,272,273,274] [0,1,2,3,4,5,6,7,8,9,10,11,12,13,14,15,16,17]
 (.loop
 (.post [0,5,28,272,273,274] [18,19,20,21]
 (.seq
 (.reg [] [⟨some 275,.cmp .lss (.tmp 274) (.tmp 273),none⟩])
 (.seq
 (.cond (.tmp 275)
 .skip
 (.exit 10))
 (.seq
 (.block 11
 (.seq
 (.reg [] [⟨some 276,.ixa 1 (.tmp 272) (.tmp 274),none⟩,
 ⟨some 277,.ld false 1 (.tmp 276),none⟩,
 ⟨some 30,.mov (.tmp 277),none⟩])
 (.seq
 (.reg [18,19] [⟨some 279,.mov (.tmp 0),none⟩,
 ⟨some 280,.len (.tmp 279),none⟩,
 ⟨some 281,.mov (.tmp 28),none⟩,
 ⟨some 282,.call 38 [(.tmp 281)],none⟩,
 ⟨some 283,.bsl 18 3 1 0 [] [],none⟩,
 ⟨some 284,.mov (.tmp 30),none⟩,
 ⟨some 285,.app 19 3 1 8 (.tmp 283) (.tmp 284),none⟩,
 ⟨some 286,.call 37 [(.tmp 280),(.cst (.d (.int .i64 2))),(.tmp 282),(.tmp 285)],none⟩,
 ⟨some 278,.mov (.tmp 286),none⟩,
 ⟨some 287,.ext 0 (.tmp 278),none⟩,
 ⟨some 288,.ext 1 (.tmp 278),none⟩,
 ⟨some 31,.mov (.tmp 287),none⟩,
 ⟨some 32,.mov (.tmp 288),none⟩])
 (.seq
 (.seq
 (.reg [] [⟨some 289,.mov (.tmp 32),none⟩,
 ⟨some 290,.cmp .neq (.tmp 289) (.cst (.d (.int .i64 0))),none⟩,
 ⟨some 291,.mov (.tmp 290),none⟩,
 ⟨some 292,.mov (.tmp 31),some (291,false)⟩,
 ⟨some 293,.mov (.tmp 292),some (291,false)⟩,
 ⟨some 294,.mov (.tmp 30),some (293,true)⟩,
 ⟨some 295,.len (.tmp 294),some (293,true)⟩,
 ⟨some 296,.cmp .lss (.tmp 295) (.cst (.d (.int .i64 2))),some (293,true)⟩,
 ⟨some 297,.pick (.tmp 293) (.tmp 296) (.cst (.d (.bool false))),some (291,false)⟩,
 ⟨some 298,.pick (.tmp 291) (.cst (.d (.bool true))) (.tmp 297),none⟩])
 (.cond (.tmp 298)
 (.seq
 (.reg [] [⟨some 6,.mov (.cst (.d (.bool false))),none⟩])
 .ret)
 .skip))
 (.seq
 (.seq
 (.reg [] [⟨some 299,.mov (.tmp 31),none⟩,
 ⟨some 300,.not (.tmp 299),none⟩])
 (.cond (.tmp 300)
 (.exit 11)
 .skip))
 (.seq
 (.seq
 (.reg [] [⟨some 301,.mov (.tmp 28),none⟩,
 ⟨some 302,.len (.tmp 301),none⟩,
 ⟨some 303,.mov (.cst (.d (.int .i64 0))),none⟩])
 (.keep [0,5,28,30,272,273,274,301,302,303] [18,19,20] s12))
 (.reg [20,21] [⟨some 325,.mov (.tmp 28),none⟩,
 ⟨some 326,.mov (.tmp 30),none⟩,
 ⟨some 327,.bsl 20 28 1 1 [(.slice 1 [])] [(0,(.tmp 326))],none⟩,
 ⟨some 328,.app 21 28 1 24 (.tmp 325) (.tmp 327),none⟩,
 ⟨some 28,.mov (.tmp 328),none⟩])))))))
 (.reg [] [⟨some 329,.arith .add .i64 (.tmp 274) (.cst (.d (.int .i64 1))),none⟩,
 ⟨some 274,.mov (.tmp 329),none⟩]))))))))))
@[irreducible] def seg10x16:ACode:=(.post [] [0,1,2,3,4,5,6,7,8,9,10,11,12,13,14,15,16,17,18,19,20,21,22,23]
 (.block 16
 (.keep [5,37,334,335] [0,1,2,3,4,5,6,7,8,9,10,11,12,13,14,15,16,17,18,19,20,21,22]
 (.loop
 (.post [5,37,334,335] [23]
 (.seq
 (.reg [] [⟨some 336,.cmp .lss (.tmp 335) (.tmp 334),none⟩])
 (.seq
 (.cond (.tmp 336)
 .skip
 (.exit 16))
 (.seq
 (.block 17
 (.seq
 (.reg [] [⟨some 337,.mov (.tmp 335),none⟩,
 ⟨some 38,.mov (.tmp 337),none⟩])
 (.seq
 (.regd [23] [⟨some 339,.fad 0 (.tmp 5),none⟩,
 ⟨some 340,.ld true 2 (.tmp 339),none⟩,
 ⟨some 341,.fad 2 (.tmp 5),none⟩,
 ⟨some 342,.ld false 1 (.tmp 341),none⟩,
 ⟨some 343,.mov (.tmp 38),none⟩,
 ⟨some 344,.arith .add .i64 (.tmp 343) (.cst (.d (.int .i64 1))),none⟩,
 ⟨some 345,.slc 2 (.tmp 342) none (some (.tmp 344)),none⟩,
 ⟨some 346,.call 52 [(.tmp 345)],none⟩,
 ⟨some 347,.call 51 [(.tmp 340),(.tmp 346)],none⟩,
 ⟨some 338,.mov (.tmp 347),none⟩,
 ⟨some 348,.ext 0 (.tmp 338),none⟩,
 ⟨some 349,.ext 1 (.tmp 338),none⟩,
 ⟨some 39,.alloc 23 [(.d (.int .i64 0)),(.d (.int .i64 0))],none⟩,
 ⟨none,.st 2 (.tmp 39) (.tmp 348),none⟩,
 ⟨some 40,.mov (.tmp 349),none⟩] [(0,2),(1,2),(0,3),(1,3),(0,4),(1,4),(2,4),(3,4),(0,5),(1,5),(2,5),(3,5),(0,6),(1,6),(0,7),(1,7),(10,11),(0,12),(1,12),(2,12),(3,12),(4,12),(5,12),(6,12),(7,12),(8,12),(9,12),(10,12),(11,12),(11,13)])
 (.seq
 (.regd [] [⟨some 351,.fad 0 (.tmp 5),none⟩,
 ⟨some 352,.ld true 2 (.tmp 351),none⟩,
 ⟨some 353,.fad 2 (.tmp 5),none⟩,
 ⟨some 354,.ld false 1 (.tmp 353),none⟩,
 ⟨some 355,.mov (.tmp 38),none⟩,
 ⟨some 356,.arith .add .i64 (.tmp 355) (.cst (.d (.int .i64 1))),none⟩,
 ⟨some 357,.slc 2 (.tmp 354) none (some (.tmp 356)),none⟩,
 ⟨some 358,.call 52 [(.tmp 357)],none⟩,
 ⟨some 359,.call 53 [(.tmp 352),(.tmp 358)],none⟩,
 ⟨some 350,.mov (.tmp 359),none⟩,
 ⟨some 360,.ext 0 (.tmp 350),none⟩,
 ⟨some 361,.ext 1 (.tmp 350),none⟩,
 ⟨some 41,.mov (.tmp 360),none⟩,
 ⟨some 42,.mov (.tmp 361),none⟩] [(0,2),(1,2),(0,3),(1,3),(0,4),(1,4),(2,4),(3,4),(0,5),(1,5),(2,5),(3,5),(0,6),(1,6),(0,7),(1,7),(10,11),(11,12)])
 (.seq
 (.seq
 (.reg [] [⟨some 362,.mov (.tmp 40),none⟩,
 ⟨some 363,.cmp .neq (.tmp 362) (.cst (.d (.int .i64 0))),none⟩,
 ⟨some 364,.mov (.tmp 363),none⟩,
 ⟨some 365,.mov (.tmp 42),some (364,false)⟩,
 ⟨some 366,.cmp .neq (.tmp 365) (.cst (.d (.int .i64 0))),some (364,false)⟩,
 ⟨some 367,.pick (.tmp 364) (.cst (.d (.bool true))) (.tmp 366),none⟩,
 ⟨some 368,.mov (.tmp 367),none⟩,
 ⟨some 369,.fad 0 (.tmp 39),some (368,false)⟩,
 ⟨some 370,.ld false 1 (.tmp 369),some (368,false)⟩,
 ⟨some 371,.fad 0 (.tmp 37),some (368,false)⟩,
 ⟨some 372,.ld false 1 (.tmp 371),some (368,false)⟩,
 ⟨some 373,.cmp .gtr (.tmp 370) (.tmp 372),some (368,false)⟩,
 ⟨some 374,.pick (.tmp 368) (.cst (.d (.bool true))) (.tmp 373),none⟩,
 ⟨some 375,.mov (.tmp 374),none⟩,
 ⟨some 376,.fad 1 (.tmp 39),some (375,false)⟩,
 ⟨some 377,.ld false 1 (.tmp 376),some (375,false)⟩,
 ⟨some 378,.fad 1 (.tmp 37),some (375,false)⟩,
 ⟨some 379,.ld false 1 (.tmp 378),some (375,false)⟩,
 ⟨some 380,.cmp .gtr (.tmp 377) (.tmp 379),some (375,false)⟩,
 ⟨some 381,.pick (.tmp 375) (.cst (.d (.bool true))) (.tmp 380),none⟩,
 ⟨some 382,.mov (.tmp 381),none⟩,
 ⟨some 383,.fad 0 (.tmp 39),some (382,false)⟩,
 ⟨some 384,.ld false 1 (.tmp 383),some (382,false)⟩,
 ⟨some 385,.fad 1 (.tmp 39),some (382,false)⟩,
 ⟨some 386,.ld false 1 (.tmp 385),some (382,false)⟩,
 ⟨some 387,.cmp .gtr (.tmp 384) (.tmp 386),some (382,false)⟩,
 ⟨some 388,.pick (.tmp 382) (.cst (.d (.bool true))) (.tmp 387),none⟩,
 ⟨some 389,.mov (.tmp 388),none⟩,
 ⟨some 390,.fad 1 (.tmp 39),some (389,false)⟩,
 ⟨some 391,.ld false 1 (.tmp 390),some (389,false)⟩,
 ⟨some 392,.fad 0 (.tmp 39),some (389,false)⟩,
 ⟨some 393,.ld false 1 (.tmp 392),some (389,false)⟩,
 ⟨some 394,.arith .sub .i64 (.tmp 391) (.tmp 393),some (389,false)⟩,
 ⟨some 395,.fad 1 (.tmp 37),some (389,false)⟩,
 ⟨some 396,.ld false 1 (.tmp 395),some (389,false)⟩,
 ⟨some 397,.fad 0 (.tmp 37),some (389,false)⟩,
 ⟨some 398,.ld false 1 (.tmp 397),some (389,false)⟩,
 ⟨some 399,.arith .sub .i64 (.tmp 396) (.tmp 398),some (389,false)⟩,
 ⟨some 400,.cmp .lss (.tmp 394) (.tmp 399),some (389,false)⟩,
 ⟨some 401,.pick (.tmp 389) (.cst (.d (.bool true))) (.tmp 400),none⟩,
 ⟨some 402,.mov (.tmp 401),none⟩,
 ⟨some 403,.mov (.tmp 41),some (402,false)⟩,
 ⟨some 404,.cmp .eql (.tmp 403) (.cst (.d (.int .i64 1))),some (402,false)⟩,
 ⟨some 405,.mov (.tmp 404),some (402,false)⟩,
 ⟨some 406,.fad 0 (.tmp 39),some (405,true)⟩,
 ⟨some 407,.ld false 1 (.tmp 406),some (405,true)⟩,
 ⟨some 408,.cmp .lss (.tmp 407) (.cst (.d (.int .i64 1))),some (405,true)⟩,
 ⟨some 409,.pick (.tmp 405) (.tmp 408) (.cst (.d (.bool false))),some (402,false)⟩,
 ⟨some 410,.pick (.tmp 402) (.cst (.d (.bool true))) (.tmp 409),none⟩,
 ⟨some 411,.mov (.tmp 410),none⟩,
 ⟨some 412,.mov (.tmp 41),some (411,false)⟩,
 ⟨some 413,.cmp .eql (.tmp 412) (.cst (.d (.int .i64 (-1)))),some (411,false)⟩,
 ⟨some 414,.mov (.tmp 413),some (411,false)⟩,
 ⟨some 415,.fad 1 (.tmp 39),some (414,true)⟩,
 ⟨some 416,.ld false 1 (.tmp 415),some (414,true)⟩,
 ⟨some 417,.cmp .gtr (.tmp 416) (.cst (.d (.int .i64 (-1)))),some (414,true)⟩,
 ⟨some 418,.pick (.tmp 414) (.tmp 417) (.cst (.d (.bool false))),some (411,false)⟩,
 ⟨some 419,.pick (.tmp 411) (.cst (.d (.bool true))) (.tmp 418),none⟩,
 ⟨some 420,.mov (.tmp 419),none⟩,
 ⟨some 421,.mov (.tmp 41),some (420,false)⟩,
 ⟨some 422,.cmp .eql (.tmp 421) (.cst (.d (.int .i64 0))),some (420,false)⟩,
 ⟨some 423,.mov (.tmp 422),some (420,false)⟩,
 ⟨some 424,.fad 0 (.tmp 39),some (423,true)⟩,
 ⟨some 425,.ld false 1 (.tmp 424),some (423,true)⟩,
 ⟨some 426,.cmp .gtr (.tmp 425) (.cst (.d (.int .i64 0))),some (423,true)⟩,
 ⟨some 427,.mov (.tmp 426),some (423,true)⟩,
 ⟨some 428,.fad 1 (.tmp 39),some (427,false)⟩,
 ⟨some 429,.ld false 1 (.tmp 428),some (427,false)⟩,
 ⟨some 430,.cmp .lss (.tmp 429) (.cst (.d (.int .i64 0))),some (427,false)⟩,
 ⟨some 431,.pick (.tmp 427) (.cst (.d (.bool true))) (.tmp 430),some (423,true)⟩,
 ⟨some 432,.pick (.tmp 423) (.tmp 431) (.cst (.d (.bool false))),some (420,false)⟩,
 ⟨some 433,.pick (.tmp 420) (.cst (.d (.bool true))) (.tmp 432),none⟩,
 ⟨some 434,.mov (.tmp 433),none⟩,
 ⟨some 435,.mov (.tmp 41),some (434,false)⟩,
 ⟨some 436,.cmp .lss (.tmp 435) (.cst (.d (.int .i64 (-1)))),some (434,false)⟩,
 ⟨some 437,.pick (.tmp 434) (.cst (.d (.bool true))) (.tmp 436),none⟩,
 ⟨some 438,.mov (.tmp 437),none⟩,
 ⟨some 439,.mov (.tmp 41),some (438,false)⟩,
 ⟨some 440,.cmp .gtr (.tmp 439) (.cst (.d (.int .i64 1))),some (438,false)⟩,
 ⟨some 441,.pick (.tmp 438) (.cst (.d (.bool true))) (.tmp 440),none⟩])
 (.cond (.tmp 441)
 (.seq
 (.reg [] [⟨some 6,.mov (.cst (.d (.bool false))),none⟩])
 .ret)
 .skip))
 (.reg [] [⟨some 442,.ld true 2 (.tmp 39),none⟩,
 ⟨none,.st 2 (.tmp 37) (.tmp 442),none⟩]))))))
 (.reg [] [⟨some 443,.arith .add .i64 (.tmp 335) (.cst (.d (.int .i64 1))),none⟩,
 ⟨some 335,.mov (.tmp 443),none⟩])))))))))
theorem uGet_at {u:List Int} {k:Nat} (h:k < u.length):(ints u)[((k:Nat):Int).toNat]?=some (.int .i64 (uGet u k)):=by
 show (u.map _)[k]?=_
 unfold uGet
 rw [List.getElem?_map,List.getElem?_eq_getElem h]; rfl
theorem tot_step {u:List Int} {k:Nat} (h:k < u.length):tot (u.take (k+1))=tot (u.take k)+uGet u k:=by
 rw [List.take_succ_eq_append_getElem h,tot_app]
 show _+(u[k]+0)=_
 unfold uGet
 rw [List.getElem?_eq_getElem h,Int.add_zero]; rfl
theorem v10e {N:Nat} {u:List Int} {L:List (List Int)} {f:Int × Int} {ms:List (Int × Int)} (hu:∀ x∈u,0≤x∧x≤7) (hul:u.length≤5) {Q:AExit→St→Prop} (hQ:Q .normal ⟨[(0,.d (.slice 1 (ints u))),(1,.d (.slice 1 (iss L))),(5,.ptr 0 0),(20,.d (.int .i64 (tot u))),(21,.sl 15 (ints (rngI u.length)).length)],[.cbox [.int .i64 f.1,.int .i64 f.2,.slice 2 (ivs ms)],.none,.none,.none,.none,.none,.none,.none,.none,.none,.none,.none,.none,.none,.none,.row 3 1 (ints (rngI u.length)) false,.none,.none,.none,.none,.none,.none,.none,.none]⟩):vc Tryz.prog N seg10x6 ⟨[(0,.d (.slice 1 (ints u))),(1,.d (.slice 1 (iss L))),(5,.ptr 0 0),(20,.d (.int .i64 (0))),(21,.nils 1),(214,.d (.slice 1 (ints u))),(215,.d (.int .i64 (((ints u).length:Nat)))),(216,.d (.int .i64 (0)))],[.cbox [.int .i64 f.1,.int .i64 f.2,.slice 2 (ivs ms)],.none,.none,.none,.none,.none,.none,.none,.none,.none,.none,.none,.none,.none,.none,.none,.none,.none,.none,.none,.none,.none,.none,.none]⟩ Q:=by
 unfold seg10x6
 have hlu:=ints_len u
 refine loop_st (fun k:Nat=>⟨[(0,.d (.slice 1 (ints u))),(1,.d (.slice 1 (iss L))),(5,.ptr 0 0),(20,.d (.int .i64 (tot (u.take k)))),(21,.sl 15 (ints (rngI k)).length),(214,.d (.slice 1 (ints u))),(215,.d (.int .i64 (((ints u).length:Nat)))),(216,.d (.int .i64 ((k:Nat))))],[.cbox [.int .i64 f.1,.int .i64 f.2,.slice 2 (ivs ms)],.none,.none,.none,.none,.none,.none,.none,.none,.none,.none,.none,.none,.none,.none,.row 3 1 (ints (rngI k)) false,.none,.none,.none,.none,.none,.none,.none,.none]⟩) (fun k=>k≤u.length) (fun k=>u.length - k) 0 rfl (Nat.zero_le _) ?_
 intro k hk
 have hk:k≤u.length:=hk
 have hlr:(ints (rngI k)).length=k:=by rw [ints_len,rngI_len]
 have ht:=tot_rng (v:=u.take k) fun x hx=>hu x (List.mem_of_mem_take hx)
 have htl:(u.take k).length≤5:=by rw [List.length_take]; omega
 dsimp only
 by_cases hkn:k < u.length
 ·have h1:=uGet_at hkn
  have hux:=(tot_at hu hkn).1
  have hts:=tot_step hkn
  have hrs:ints (rngI (k+1))=ints (rngI k)++[Data.int .i64 (k:Int)]:=by rw [rngI_succ]; unfold ints; rw [List.map_append]; rfl
  have fin:∀ (w:Int) (W:List Data),w=tot (u.take (k+1))→W=ints (rngI (k+1))→∃ a':Nat,(a'≤u.length∧u.length - a' < u.length - k)∧(⟨[(0,.d (.slice 1 (ints u))),(1,.d (.slice 1 (iss L))),(5,.ptr 0 0),(20,.d (.int .i64 (w))),(21,.sl 15 W.length),(214,.d (.slice 1 (ints u))),(215,.d (.int .i64 (((ints u).length:Nat)))),(216,.d (.int .i64 (((k:Int)+1))))],[.cbox [.int .i64 f.1,.int .i64 f.2,.slice 2 (ivs ms)],.none,.none,.none,.none,.none,.none,.none,.none,.none,.none,.none,.none,.none,.none,.row 3 1 W false,.none,.none,.none,.none,.none,.none,.none,.none]⟩:St)=⟨[(0,.d (.slice 1 (ints u))),(1,.d (.slice 1 (iss L))),(5,.ptr 0 0),(20,.d (.int .i64 (tot (u.take a')))),(21,.sl 15 (ints (rngI a')).length),(214,.d (.slice 1 (ints u))),(215,.d (.int .i64 (((ints u).length:Nat)))),(216,.d (.int .i64 ((a':Nat))))],[.cbox [.int .i64 f.1,.int .i64 f.2,.slice 2 (ivs ms)],.none,.none,.none,.none,.none,.none,.none,.none,.none,.none,.none,.none,.none,.none,.row 3 1 (ints (rngI a')) false,.none,.none,.none,.none,.none,.none,.none,.none]⟩:=fun w W e1 e2 =>
   ⟨k+1,⟨by omega,by omega⟩,by rw [e1,e2]; rfl⟩
  have fin:=fin _ _ hts.symm hrs.symm
  clear hts hrs hu
  generalize tot (u.take k)=w at *
  generalize uGet u k=x at *
  generalize ints (rngI k)=W at *
  refine sd ?_
  refine b_lt (fun t1=>?_) (fun t1=>?_)
  refine ix_at h1 ?_ ?_
  (show (0:Int)≤(↑k:Int); omega)
  refine sd ?_
  refine sd ?_
  refine sd ?_
  refine an ?_ ?_
  refine an ?_ ?_
  exact rfl
  refine an ?_ ?_
  exact rfl
  refine an ?_ ?_
  exact rfl
  refine an ?_ ?_
  (show (List.length W+(1:Nat)) * (8:Nat)≤(2:Nat) ^ (47:Nat); omega)
  (show List.length W+(1:Nat)≤(2:Nat) ^ (47:Nat); omega)
  refine ar_add ?_ ?_
  refine an ?_ ?_
  (show (-9223372036854775808:Int)≤w+x; omega)
  (show w+x≤(9223372036854775807:Int); omega)
  refine ar_add ?_ ?_
  refine an ?_ ?_
  (show (-9223372036854775808:Int)≤(↑k:Int)+(1:Int); omega)
  (show (↑k:Int)+(1:Int)≤(9223372036854775807:Int); omega)
  rotate_left
  (exfalso; omega)
  all_goals exact fin
 ·have e:k=u.length:=by omega
  subst e
  rw [List.take_length]
  refine sd ?_
  refine b_lt (fun t1=>?_) (fun t1=>?_)
  (exfalso; omega)
  rotate_left
  exact hQ
theorem v10f {N:Nat} {u:List Int} {L:List (List Int)} {f:Int × Int} {ms:List (Int × Int)} {K:List (Int × Int)} {T:Int} (hK:K.length=u.length) (hul:1≤u.length∧u.length≤5) (hT:0≤T∧T≤35) (hin:∀ j,j < u.length→K[j]?=some (max 0 (T - 7 * ((u.length:Int) - 1)),min 7 T)) {Q:AExit→St→Prop} (hQ:Q .normal ⟨[(0,.d (.slice 1 (ints u))),(1,.d (.slice 1 (iss L))),(5,.ptr 0 0)],[.cbox [.int .i64 f.1,.int .i64 f.2,.slice 2 (ivs ms)],.none,.none,.none,.none,.none,.none,.none,.none,.none,.none,.none,.none,.none,.none,.none,.none,.none,.none,.none,.none,.none,.none,.none]⟩):vc Tryz.prog N seg10x8 ⟨[(0,.d (.slice 1 (ints u))),(1,.d (.slice 1 (iss L))),(5,.ptr 0 0),(20,.d (.int .i64 (T))),(248,.d (.slice 2 (ivs K))),(249,.d (.int .i64 (((ivs K).length:Nat)))),(250,.d (.int .i64 (0)))],[.cbox [.int .i64 f.1,.int .i64 f.2,.slice 2 (ivs ms)],.none,.none,.none,.none,.none,.none,.none,.none,.none,.none,.none,.none,.none,.none,.none,.none,.none,.none,.none,.none,.none,.none,.none]⟩ Q:=by
 unfold seg10x8
 have hlK:=ivs_len K
 have hlu:=ints_len u
 refine loop_st (fun k:Nat=>⟨[(0,.d (.slice 1 (ints u))),(1,.d (.slice 1 (iss L))),(5,.ptr 0 0),(20,.d (.int .i64 (T))),(248,.d (.slice 2 (ivs K))),(249,.d (.int .i64 (((ivs K).length:Nat)))),(250,.d (.int .i64 ((k:Nat))))],[.cbox [.int .i64 f.1,.int .i64 f.2,.slice 2 (ivs ms)],.none,.none,.none,.none,.none,.none,.none,.none,.none,.none,.none,.none,.none,.none,.none,.none,.none,.none,.none,.none,.none,.none,.none]⟩) (fun k=>k≤u.length) (fun k=>u.length - k) 0 rfl (Nat.zero_le _) ?_
 intro k hk
 have hk:k≤u.length:=hk
 dsimp only
 by_cases hkn:k < u.length
 ·have hy1:=ivs_at (hin k hkn)
  rw [← hlu] at hy1
  have fin:∃ a':Nat,(a'≤u.length∧u.length - a' < u.length - k)∧(⟨[(0,.d (.slice 1 (ints u))),(1,.d (.slice 1 (iss L))),(5,.ptr 0 0),(20,.d (.int .i64 (T))),(248,.d (.slice 2 (ivs K))),(249,.d (.int .i64 (((ivs K).length:Nat)))),(250,.d (.int .i64 (((k:Int)+1))))],[.cbox [.int .i64 f.1,.int .i64 f.2,.slice 2 (ivs ms)],.none,.none,.none,.none,.none,.none,.none,.none,.none,.none,.none,.none,.none,.none,.none,.none,.none,.none,.none,.none,.none,.none,.none]⟩:St)=⟨[(0,.d (.slice 1 (ints u))),(1,.d (.slice 1 (iss L))),(5,.ptr 0 0),(20,.d (.int .i64 (T))),(248,.d (.slice 2 (ivs K))),(249,.d (.int .i64 (((ivs K).length:Nat)))),(250,.d (.int .i64 ((a':Nat))))],[.cbox [.int .i64 f.1,.int .i64 f.2,.slice 2 (ivs ms)],.none,.none,.none,.none,.none,.none,.none,.none,.none,.none,.none,.none,.none,.none,.none,.none,.none,.none,.none,.none,.none,.none,.none]⟩:=⟨k+1,⟨by omega,by omega⟩,rfl⟩
  clear hin
  refine sd ?_
  refine b_lt (fun t1=>?_) (fun t1=>?_)
  refine ix_at hy1 ?_ ?_
  (show (0:Int)≤(↑k:Int); omega)
  refine ar_sub ?_ ?_
  refine an ?_ ?_
  (show (-9223372036854775808:Int)≤(↑(List.length (ints u)):Int) - (1:Int); omega)
  (show (↑(List.length (ints u)):Int) - (1:Int)≤(9223372036854775807:Int); omega)
  refine ar_mul ?_ ?_
  refine an ?_ ?_
  (show (-9223372036854775808:Int)≤(7:Int) * ((↑(List.length (ints u)):Int) - (1:Int)); omega)
  (show (7:Int) * ((↑(List.length (ints u)):Int) - (1:Int))≤(9223372036854775807:Int); omega)
  refine ar_sub ?_ ?_
  refine an ?_ ?_
  (show (-9223372036854775808:Int)≤T - (7:Int) * ((↑(List.length (ints u)):Int) - (1:Int)); omega)
  (show T - (7:Int) * ((↑(List.length (ints u)):Int) - (1:Int))≤(9223372036854775807:Int); omega)
  refine sd ?_
  refine sd ?_
  refine b_ne (fun t2=>?_) (fun t2=>?_)
  replace t2:¬max (0:Int) (T - (7:Int) * ((↑(List.length (ints u)):Int) - (1:Int)))=max (0:Int) (T - (7:Int) * ((↑(List.length (ints u)):Int) - (1:Int))):=t2
  (exfalso; omega)
  replace t2:max (0:Int) (T - (7:Int) * ((↑(List.length (ints u)):Int) - (1:Int)))=max (0:Int) (T - (7:Int) * ((↑(List.length (ints u)):Int) - (1:Int))):=t2
  refine sd ?_
  refine sd ?_
  refine b_ne (fun t3=>?_) (fun t3=>?_)
  replace t3:¬min (7:Int) T=min (7:Int) T:=t3
  (exfalso; omega)
  replace t3:min (7:Int) T=min (7:Int) T:=t3
  refine ar_add ?_ ?_
  refine an ?_ ?_
  (show (-9223372036854775808:Int)≤(↑k:Int)+(1:Int); omega)
  (show (↑k:Int)+(1:Int)≤(9223372036854775807:Int); omega)
  rotate_left
  (exfalso; omega)
  all_goals exact fin
 ·have e:k=u.length:=by omega
  subst e
  refine sd ?_
  refine b_lt (fun t1=>?_) (fun t1=>?_)
  (exfalso; omega)
  rotate_left
  exact hQ
theorem v10g {N:Nat} {u s:List Int} {L A:List (List Int)} {f:Int × Int} {ms:List (Int × Int)} {q:Int} {fz:Bool} {o:List Int} {p:Int} (hul:u.length≤5) (hs:s.length≤1048576) (ho:o.length≤1048576) {Q:AExit→St→Prop} (hQ:Q .normal ⟨[(0,.d (.slice 1 (ints u))),(5,.ptr 0 0),(28,.sl 21 (iss A).length),(30,.d (.slice 1 (ints s))),(35,.d (.int .i64 (xorN o s u.length))),(272,.d (.slice 1 (iss L))),(273,.d (.int .i64 (((iss L).length:Nat)))),(274,.d (.int .i64 (q))),(301,.sl 21 (iss A).length),(302,.d (.int .i64 (((iss A).length:Nat)))),(303,.d (.int .i64 (p)))],[.cbox [.int .i64 f.1,.int .i64 f.2,.slice 2 (ivs ms)],.none,.none,.none,.none,.none,.none,.none,.none,.none,.none,.none,.none,.none,.none,.none,.none,.none,.none,.none,.none,.row 28 1 (iss A) fz,.none,.none]⟩):vc Tryz.prog N seg10x14 ⟨[(0,.d (.slice 1 (ints u))),(5,.ptr 0 0),(28,.sl 21 (iss A).length),(30,.d (.slice 1 (ints s))),(34,.d (.slice 1 (ints o))),(35,.d (.int .i64 (0))),(272,.d (.slice 1 (iss L))),(273,.d (.int .i64 (((iss L).length:Nat)))),(274,.d (.int .i64 (q))),(301,.sl 21 (iss A).length),(302,.d (.int .i64 (((iss A).length:Nat)))),(303,.d (.int .i64 (p))),(308,.d (.int .i64 (((ints u).length:Nat)))),(309,.d (.int .i64 (0)))],[.cbox [.int .i64 f.1,.int .i64 f.2,.slice 2 (ivs ms)],.none,.none,.none,.none,.none,.none,.none,.none,.none,.none,.none,.none,.none,.none,.none,.none,.none,.none,.none,.none,.row 28 1 (iss A) fz,.none,.none]⟩ Q:=by
 unfold seg10x14
 have hlu:=ints_len u
 refine loop_st (fun k:Nat=>⟨[(0,.d (.slice 1 (ints u))),(5,.ptr 0 0),(28,.sl 21 (iss A).length),(30,.d (.slice 1 (ints s))),(34,.d (.slice 1 (ints o))),(35,.d (.int .i64 (xorN o s k))),(272,.d (.slice 1 (iss L))),(273,.d (.int .i64 (((iss L).length:Nat)))),(274,.d (.int .i64 (q))),(301,.sl 21 (iss A).length),(302,.d (.int .i64 (((iss A).length:Nat)))),(303,.d (.int .i64 (p))),(308,.d (.int .i64 (((ints u).length:Nat)))),(309,.d (.int .i64 ((k:Nat))))],[.cbox [.int .i64 f.1,.int .i64 f.2,.slice 2 (ivs ms)],.none,.none,.none,.none,.none,.none,.none,.none,.none,.none,.none,.none,.none,.none,.none,.none,.none,.none,.none,.none,.row 28 1 (iss A) fz,.none,.none]⟩) (fun k=>k≤u.length) (fun k=>u.length - k) 0 rfl (Nat.zero_le _) ?_
 intro k hk
 have hk:k≤u.length:=hk
 have hxr:=xorN_rng o s k
 dsimp only
 by_cases hkn:k < u.length
 ·have c94_a:=c94 o (k:Int) ho
  have c94_b:=c94 s (k:Int) hs
  have hxs:xorN o s (k+1)=xorN o s k+(bif o.contains (k:Int) != s.contains (k:Int) then 1 else 0):=rfl
  have fin:∀ w,w=xorN o s (k+1)→∃ a':Nat,(a'≤u.length∧u.length - a' < u.length - k)∧(⟨[(0,.d (.slice 1 (ints u))),(5,.ptr 0 0),(28,.sl 21 (iss A).length),(30,.d (.slice 1 (ints s))),(34,.d (.slice 1 (ints o))),(35,.d (.int .i64 (w))),(272,.d (.slice 1 (iss L))),(273,.d (.int .i64 (((iss L).length:Nat)))),(274,.d (.int .i64 (q))),(301,.sl 21 (iss A).length),(302,.d (.int .i64 (((iss A).length:Nat)))),(303,.d (.int .i64 (p))),(308,.d (.int .i64 (((ints u).length:Nat)))),(309,.d (.int .i64 (((k:Int)+1))))],[.cbox [.int .i64 f.1,.int .i64 f.2,.slice 2 (ivs ms)],.none,.none,.none,.none,.none,.none,.none,.none,.none,.none,.none,.none,.none,.none,.none,.none,.none,.none,.none,.none,.row 28 1 (iss A) fz,.none,.none]⟩:St)=⟨[(0,.d (.slice 1 (ints u))),(5,.ptr 0 0),(28,.sl 21 (iss A).length),(30,.d (.slice 1 (ints s))),(34,.d (.slice 1 (ints o))),(35,.d (.int .i64 (xorN o s a'))),(272,.d (.slice 1 (iss L))),(273,.d (.int .i64 (((iss L).length:Nat)))),(274,.d (.int .i64 (q))),(301,.sl 21 (iss A).length),(302,.d (.int .i64 (((iss A).length:Nat)))),(303,.d (.int .i64 (p))),(308,.d (.int .i64 (((ints u).length:Nat)))),(309,.d (.int .i64 ((a':Nat))))],[.cbox [.int .i64 f.1,.int .i64 f.2,.slice 2 (ivs ms)],.none,.none,.none,.none,.none,.none,.none,.none,.none,.none,.none,.none,.none,.none,.none,.none,.none,.none,.none,.none,.row 28 1 (iss A) fz,.none,.none]⟩:=fun w e =>
   ⟨k+1,⟨by omega,by omega⟩,by rw [e]; rfl⟩
  rw [hxs] at fin
  clear hxs
  generalize xorN o s k=w at *
  cases h1:o.contains (k:Int) <;> cases h2:s.contains (k:Int) <;> rw [h1] at c94_a fin <;> rw [h2] at c94_b fin
  ·have fin:=fin w (by simp)
   refine sd ?_
   refine b_lt (fun t1=>?_) (fun t1=>?_)
   refine ca c94_a ?_
   refine ca c94_b ?_
   refine ar_add ?_ ?_
   refine an ?_ ?_
   (show (-9223372036854775808:Int)≤(↑k:Int)+(1:Int); omega)
   (show (↑k:Int)+(1:Int)≤(9223372036854775807:Int); omega)
   rotate_left
   (exfalso; omega)
   all_goals exact fin
  ·have fin:=fin (w+1) (by simp)
   refine sd ?_
   refine b_lt (fun t1=>?_) (fun t1=>?_)
   refine ca c94_a ?_
   refine ca c94_b ?_
   refine ar_add ?_ ?_
   refine an ?_ ?_
   (show (-9223372036854775808:Int)≤w+(1:Int); omega)
   (show w+(1:Int)≤(9223372036854775807:Int); omega)
   refine ar_add ?_ ?_
   refine an ?_ ?_
   (show (-9223372036854775808:Int)≤(↑k:Int)+(1:Int); omega)
   (show (↑k:Int)+(1:Int)≤(9223372036854775807:Int); omega)
   rotate_left
   (exfalso; omega)
   all_goals exact fin
  ·have fin:=fin (w+1) (by simp)
   refine sd ?_
   refine b_lt (fun t1=>?_) (fun t1=>?_)
   refine ca c94_a ?_
   refine ca c94_b ?_
   refine ar_add ?_ ?_
   refine an ?_ ?_
   (show (-9223372036854775808:Int)≤w+(1:Int); omega)
   (show w+(1:Int)≤(9223372036854775807:Int); omega)
   refine ar_add ?_ ?_
   refine an ?_ ?_
   (show (-9223372036854775808:Int)≤(↑k:Int)+(1:Int); omega)
   (show (↑k:Int)+(1:Int)≤(9223372036854775807:Int); omega)
   rotate_left
   (exfalso; omega)
   all_goals exact fin
  ·have fin:=fin w (by simp)
   refine sd ?_
   refine b_lt (fun t1=>?_) (fun t1=>?_)
   refine ca c94_a ?_
   refine ca c94_b ?_
   refine ar_add ?_ ?_
   refine an ?_ ?_
   (show (-9223372036854775808:Int)≤(↑k:Int)+(1:Int); omega)
   (show (↑k:Int)+(1:Int)≤(9223372036854775807:Int); omega)
   rotate_left
   (exfalso; omega)
   all_goals exact fin
 ·have e:k=u.length:=by omega
  subst e
  refine sd ?_
  refine b_lt (fun t1=>?_) (fun t1=>?_)
  (exfalso; omega)
  rotate_left
  exact hQ
theorem v10h {s14 : ACode} {N : Nat} {u s : List Int} {L A : List (List Int)} {f : Int × Int} {ms : List (Int × Int)} {q : Int} {fz : Bool} (hA : A.length ≤ 16) (hs : s.length ≤ 1048576) (hAs : ∀ o ∈ A, o.length ≤ 1048576) (hno : ∀ o ∈ A, xorN o s u.length ≠ 1) (hul : u.length ≤ 5)
  (hv:∀ (o:List Int) (p:Int),o.length≤1048576→∀ Q:AExit→St→Prop,Q .normal ⟨[(0,.d (.slice 1 (ints u))),(5,.ptr 0 0),(28,.sl 21 (iss A).length),(30,.d (.slice 1 (ints s))),(35,.d (.int .i64 (xorN o s u.length))),(272,.d (.slice 1 (iss L))),(273,.d (.int .i64 (((iss L).length:Nat)))),(274,.d (.int .i64 (q))),(301,.sl 21 (iss A).length),(302,.d (.int .i64 (((iss A).length:Nat)))),(303,.d (.int .i64 (p)))],[.cbox [.int .i64 f.1,.int .i64 f.2,.slice 2 (ivs ms)],.none,.none,.none,.none,.none,.none,.none,.none,.none,.none,.none,.none,.none,.none,.none,.none,.none,.none,.none,.none,.row 28 1 (iss A) fz,.none,.none]⟩→vc Tryz.prog N s14 ⟨[(0,.d (.slice 1 (ints u))),(5,.ptr 0 0),(28,.sl 21 (iss A).length),(30,.d (.slice 1 (ints s))),(34,.d (.slice 1 (ints o))),(35,.d (.int .i64 (0))),(272,.d (.slice 1 (iss L))),(273,.d (.int .i64 (((iss L).length:Nat)))),(274,.d (.int .i64 (q))),(301,.sl 21 (iss A).length),(302,.d (.int .i64 (((iss A).length:Nat)))),(303,.d (.int .i64 (p))),(308,.d (.int .i64 (((ints u).length:Nat)))),(309,.d (.int .i64 (0)))],[.cbox [.int .i64 f.1,.int .i64 f.2,.slice 2 (ivs ms)],.none,.none,.none,.none,.none,.none,.none,.none,.none,.none,.none,.none,.none,.none,.none,.none,.none,.none,.none,.none,.row 28 1 (iss A) fz,.none,.none]⟩ Q)
  {Q:AExit→St→Prop} (hQ:Q .normal ⟨[(0,.d (.slice 1 (ints u))),(5,.ptr 0 0),(28,.sl 21 (iss A).length),(30,.d (.slice 1 (ints s))),(272,.d (.slice 1 (iss L))),(273,.d (.int .i64 (((iss L).length:Nat)))),(274,.d (.int .i64 (q)))],[.cbox [.int .i64 f.1,.int .i64 f.2,.slice 2 (ivs ms)],.none,.none,.none,.none,.none,.none,.none,.none,.none,.none,.none,.none,.none,.none,.none,.none,.none,.none,.none,.none,.row 28 1 (iss A) fz,.none,.none]⟩):vc Tryz.prog N (seg10x12 s14) ⟨[(0,.d (.slice 1 (ints u))),(5,.ptr 0 0),(28,.sl 21 (iss A).length),(30,.d (.slice 1 (ints s))),(272,.d (.slice 1 (iss L))),(273,.d (.int .i64 (((iss L).length:Nat)))),(274,.d (.int .i64 (q))),(301,.sl 21 (iss A).length),(302,.d (.int .i64 (((iss A).length:Nat)))),(303,.d (.int .i64 (0)))],[.cbox [.int .i64 f.1,.int .i64 f.2,.slice 2 (ivs ms)],.none,.none,.none,.none,.none,.none,.none,.none,.none,.none,.none,.none,.none,.none,.none,.none,.none,.none,.none,.none,.row 28 1 (iss A) fz,.none,.none]⟩ Q:=by
 unfold seg10x12
 have hlA:=iss_len A
 refine loop_st (fun k:Nat=>⟨[(0,.d (.slice 1 (ints u))),(5,.ptr 0 0),(28,.sl 21 (iss A).length),(30,.d (.slice 1 (ints s))),(272,.d (.slice 1 (iss L))),(273,.d (.int .i64 (((iss L).length:Nat)))),(274,.d (.int .i64 (q))),(301,.sl 21 (iss A).length),(302,.d (.int .i64 (((iss A).length:Nat)))),(303,.d (.int .i64 ((k:Nat))))],[.cbox [.int .i64 f.1,.int .i64 f.2,.slice 2 (ivs ms)],.none,.none,.none,.none,.none,.none,.none,.none,.none,.none,.none,.none,.none,.none,.none,.none,.none,.none,.none,.none,.row 28 1 (iss A) fz,.none,.none]⟩) (fun k=>k≤A.length) (fun k=>A.length - k) 0 rfl (Nat.zero_le _) ?_
 intro k hk
 have hk:k≤A.length:=hk
 dsimp only
 by_cases hkn:k < A.length
 ·refine Exists.elim (get_lt A hkn) fun o hx=>?_
  have hoA:=List.mem_of_getElem? hx
  have hx1:=iss_at hx
  have hn:=hno o hoA
  have hvo:=hv o (k:Int) (hAs o hoA)
  have fin:∃ a':Nat,(a'≤A.length∧A.length - a' < A.length - k)∧(⟨[(0,.d (.slice 1 (ints u))),(5,.ptr 0 0),(28,.sl 21 (iss A).length),(30,.d (.slice 1 (ints s))),(272,.d (.slice 1 (iss L))),(273,.d (.int .i64 (((iss L).length:Nat)))),(274,.d (.int .i64 (q))),(301,.sl 21 (iss A).length),(302,.d (.int .i64 (((iss A).length:Nat)))),(303,.d (.int .i64 (((k:Int)+1))))],[.cbox [.int .i64 f.1,.int .i64 f.2,.slice 2 (ivs ms)],.none,.none,.none,.none,.none,.none,.none,.none,.none,.none,.none,.none,.none,.none,.none,.none,.none,.none,.none,.none,.row 28 1 (iss A) fz,.none,.none]⟩:St)=⟨[(0,.d (.slice 1 (ints u))),(5,.ptr 0 0),(28,.sl 21 (iss A).length),(30,.d (.slice 1 (ints s))),(272,.d (.slice 1 (iss L))),(273,.d (.int .i64 (((iss L).length:Nat)))),(274,.d (.int .i64 (q))),(301,.sl 21 (iss A).length),(302,.d (.int .i64 (((iss A).length:Nat)))),(303,.d (.int .i64 ((a':Nat))))],[.cbox [.int .i64 f.1,.int .i64 f.2,.slice 2 (ivs ms)],.none,.none,.none,.none,.none,.none,.none,.none,.none,.none,.none,.none,.none,.none,.none,.none,.none,.none,.none,.none,.row 28 1 (iss A) fz,.none,.none]⟩:=⟨k+1,⟨by omega,by omega⟩,rfl⟩
  clear hv hno hAs
  generalize xorN o s u.length=w at *
  refine sd ?_
  refine b_lt (fun t1=>?_) (fun t1=>?_)
  refine an ?_ ?_
  refine an ?_ ?_
  exact rfl
  refine an ?_ ?_
  exact rfl
  refine an ?_ ?_
  (show (0:Int)≤(↑k:Int); omega)
  assumption
  refine sd ?_
  refine ca hx1 ?_
  refine hvo _ ?_
  refine sd ?_
  refine b_eq (fun t2=>?_) (fun t2=>?_)
  (exfalso; omega)
  refine ar_add ?_ ?_
  refine an ?_ ?_
  (show (-9223372036854775808:Int)≤(↑k:Int)+(1:Int); omega)
  (show (↑k:Int)+(1:Int)≤(9223372036854775807:Int); omega)
  rotate_left
  (exfalso; omega)
  all_goals exact fin
 ·have e:k=A.length:=by omega
  subst e
  refine sd ?_
  refine b_lt (fun t1=>?_) (fun t1=>?_)
  (exfalso; omega)
  rotate_left
  exact hQ
theorem v10i {s12 : ACode} {N : Nat} {u : List Int} {L : List (List Int)} {f : Int × Int} {ms : List (Int × Int)} (hul : 1 ≤ u.length ∧ u.length ≤ 5) (hL5 : L.length ≤ 5) (hL : ∀ s ∈ L, setE (u.length : Int) s = 0) (hLs : ∀ s ∈ L, s.length ≤ 1048576)
  (hv:∀ (s:List Int) (A:List (List Int)) (q:Int) (fz:Bool),A.length≤16→s.length≤1048576→(∀ o∈A,o.length≤1048576)→(∀ o∈A,xorN o s u.length≠1)→∀ Q:AExit→St→Prop,Q .normal ⟨[(0,.d (.slice 1 (ints u))),(5,.ptr 0 0),(28,.sl 21 (iss A).length),(30,.d (.slice 1 (ints s))),(272,.d (.slice 1 (iss L))),(273,.d (.int .i64 (((iss L).length:Nat)))),(274,.d (.int .i64 (q)))],[.cbox [.int .i64 f.1,.int .i64 f.2,.slice 2 (ivs ms)],.none,.none,.none,.none,.none,.none,.none,.none,.none,.none,.none,.none,.none,.none,.none,.none,.none,.none,.none,.none,.row 28 1 (iss A) fz,.none,.none]⟩→vc Tryz.prog N s12 ⟨[(0,.d (.slice 1 (ints u))),(5,.ptr 0 0),(28,.sl 21 (iss A).length),(30,.d (.slice 1 (ints s))),(272,.d (.slice 1 (iss L))),(273,.d (.int .i64 (((iss L).length:Nat)))),(274,.d (.int .i64 (q))),(301,.sl 21 (iss A).length),(302,.d (.int .i64 (((iss A).length:Nat)))),(303,.d (.int .i64 (0)))],[.cbox [.int .i64 f.1,.int .i64 f.2,.slice 2 (ivs ms)],.none,.none,.none,.none,.none,.none,.none,.none,.none,.none,.none,.none,.none,.none,.none,.none,.none,.none,.none,.none,.row 28 1 (iss A) fz,.none,.none]⟩ Q)
  {Q:AExit→St→Prop} (hQ:Q .normal ⟨[(5,.ptr 0 0)],[.cbox [.int .i64 f.1,.int .i64 f.2,.slice 2 (ivs ms)],.none,.none,.none,.none,.none,.none,.none,.none,.none,.none,.none,.none,.none,.none,.none,.none,.none,.none,.none,.none,.none,.none,.none]⟩):vc Tryz.prog N (seg10x10 s12) ⟨[(0,.d (.slice 1 (ints u))),(5,.ptr 0 0),(28,.nils 1),(272,.d (.slice 1 (iss L))),(273,.d (.int .i64 (((iss L).length:Nat)))),(274,.d (.int .i64 (0)))],[.cbox [.int .i64 f.1,.int .i64 f.2,.slice 2 (ivs ms)],.none,.none,.none,.none,.none,.none,.none,.none,.none,.none,.none,.none,.none,.none,.none,.none,.none,.none,.none,.none,.none,.none,.none]⟩ Q:=by
 unfold seg10x10
 have hlL:=iss_len L
 have hlu:=ints_len u
 refine loop_st (fun p:Nat × List (List Int) × Bool=>⟨[(0,.d (.slice 1 (ints u))),(5,.ptr 0 0),(28,.sl 21 (iss p.2.1).length),(272,.d (.slice 1 (iss L))),(273,.d (.int .i64 (((iss L).length:Nat)))),(274,.d (.int .i64 ((p.1:Nat))))],[.cbox [.int .i64 f.1,.int .i64 f.2,.slice 2 (ivs ms)],.none,.none,.none,.none,.none,.none,.none,.none,.none,.none,.none,.none,.none,.none,.none,.none,.none,.none,.none,.none,.row 28 1 (iss p.2.1) p.2.2,.none,.none]⟩) (fun p=>p.1≤L.length∧p.2.1.length≤p.1∧∀ o∈p.2.1,setE (u.length:Int) o=0∧o.length≤1048576) (fun p=>L.length - p.1) (0,[],false) rfl ⟨Nat.zero_le _,Nat.le_refl _,fun o h=>by cases h⟩ ?_
 rintro ⟨k,A,fz⟩ ⟨hk,hA,hAo⟩
 have hk:k≤L.length:=hk
 have hA:A.length≤k:=hA
 have hAo:∀ o∈A,setE (u.length:Int) o=0∧o.length≤1048576:=hAo
 have hlA:=iss_len A
 dsimp only
 by_cases hkn:k < L.length
 ·refine Exists.elim (get_lt L hkn) fun s hx=>?_
  have hsL:=List.mem_of_getElem? hx
  have hx1:=iss_at hx
  have hls:=ints_len s
  have hs1:=hL s hsL
  have hs2:=hLs s hsL
  have c38_:=c38 A (by omega) (fun o ho=>(hAo o ho).2)
  have c37_:=c37 (u.length:Int) 2 A s (by omega) hs2 (fun o ho=>(hAo o ho).2)
  rw [permE_0 (by omega) (by omega) (fun o ho=>(hAo o ho).1) hs1] at c37_
  have c37_:CallDet Tryz.prog 37 [.d (.int .i64 (((ints u).length:Nat):Int)),.d (.int .i64 2),.d (.slice 1 (iss A)),.d (.slice 1 (ints s))] [.bool (permP 2 A s),.int .i64 0]:=by rw [hlu]; exact c37_
  have hpn:=fun h:permP 2 A s=true=>perm_no (fun o ho=>(hAo o ho).1) hs1 h
  have fin:∀ (A':List (List Int)) (W:List Data) (fz':Bool),(A'=A∨A'=A++[s])→W=iss A'→∃ a':Nat × List (List Int) × Bool,((a'.1≤L.length∧a'.2.1.length≤a'.1∧∀ o∈a'.2.1,setE (u.length:Int) o=0∧o.length≤1048576)∧L.length - a'.1 < L.length - k)∧(⟨[(0,.d (.slice 1 (ints u))),(5,.ptr 0 0),(28,.sl 21 (W).length),(272,.d (.slice 1 (iss L))),(273,.d (.int .i64 (((iss L).length:Nat)))),(274,.d (.int .i64 (((k:Int)+1))))],[.cbox [.int .i64 f.1,.int .i64 f.2,.slice 2 (ivs ms)],.none,.none,.none,.none,.none,.none,.none,.none,.none,.none,.none,.none,.none,.none,.none,.none,.none,.none,.none,.none,.row 28 1 (W) fz',.none,.none]⟩:St)=⟨[(0,.d (.slice 1 (ints u))),(5,.ptr 0 0),(28,.sl 21 (iss a'.2.1).length),(272,.d (.slice 1 (iss L))),(273,.d (.int .i64 (((iss L).length:Nat)))),(274,.d (.int .i64 ((a'.1:Nat))))],[.cbox [.int .i64 f.1,.int .i64 f.2,.slice 2 (ivs ms)],.none,.none,.none,.none,.none,.none,.none,.none,.none,.none,.none,.none,.none,.none,.none,.none,.none,.none,.none,.none,.row 28 1 (iss a'.2.1) a'.2.2,.none,.none]⟩:=fun A' W fz' e1 e2 =>
   ⟨(k+1,A',fz'),⟨⟨by show k+1≤L.length; omega,by
    show A'.length≤k+1
    rcases e1 with rfl | rfl
    ·omega
    ·rw [List.length_append]; show A.length+1≤k+1; omega,fun o ho=>by
    rcases e1 with rfl | rfl
    ·exact hAo o ho
    ·rcases List.mem_append.1 ho with ho | ho
     ·exact hAo o ho
     ·rw [List.mem_singleton.1 ho]; exact ⟨hs1,hs2⟩⟩,by show L.length - (k+1) < L.length - k; omega⟩,by rw [e2]; rfl⟩
  cases hp:permP 2 A s with
  | false =>
   rw [hp] at c37_
   have fin:=fun z=>fin A _ z (.inl rfl) rfl
   clear hv hpn hAo hL hLs
   refine sd ?_
   refine b_lt (fun t1=>?_) (fun t1=>?_)
   refine ix_at hx1 ?_ ?_
   (show (0:Int)≤(↑k:Int); omega)
   refine sd ?_
   refine ca c38_ ?_
   refine sd ?_
   refine sd ?_
   refine an ?_ ?_
   refine an ?_ ?_
   exact rfl
   refine an ?_ ?_
   exact rfl
   refine an ?_ ?_
   exact rfl
   refine an ?_ ?_
   (show ((0:Nat)+List.length (ints s)) * (8:Nat)≤(2:Nat) ^ (47:Nat); omega)
   (show (0:Nat)+List.length (ints s)≤(2:Nat) ^ (47:Nat); omega)
   refine sd ?_
   refine ca c37_ ?_
   refine sd ?_
   refine sd ?_
   refine ar_add ?_ ?_
   refine an ?_ ?_
   (show (-9223372036854775808:Int)≤(↑k:Int)+(1:Int); omega)
   (show (↑k:Int)+(1:Int)≤(9223372036854775807:Int); omega)
   rotate_left
   (exfalso; omega)
   all_goals exact fin _
  | true =>
   rw [hp] at c37_
   obtain ⟨hp1,hp2⟩:=hpn hp
   have fin:=fun z=>fin (A++[s]) (iss A++[Data.slice 1 (ints s)]) z (.inr rfl) (by unfold iss; rw [List.map_append]; rfl)
   have hvs:=fun (z:Bool) (Q:AExit→St→Prop)=>hv s A (k:Int) z (by omega) hs2 (fun o ho=>(hAo o ho).2) hp2 Q
   clear hv hpn hAo hL hLs hp2
   refine sd ?_
   refine b_lt (fun t1=>?_) (fun t1=>?_)
   refine ix_at hx1 ?_ ?_
   (show (0:Int)≤(↑k:Int); omega)
   refine sd ?_
   refine ca c38_ ?_
   refine sd ?_
   refine sd ?_
   refine an ?_ ?_
   refine an ?_ ?_
   exact rfl
   refine an ?_ ?_
   exact rfl
   refine an ?_ ?_
   exact rfl
   refine an ?_ ?_
   (show ((0:Nat)+List.length (ints s)) * (8:Nat)≤(2:Nat) ^ (47:Nat); omega)
   (show (0:Nat)+List.length (ints s)≤(2:Nat) ^ (47:Nat); omega)
   refine sd ?_
   refine ca c37_ ?_
   refine sd ?_
   refine sd ?_
   refine b_lt (fun t2=>?_) (fun t2=>?_)
   (exfalso; omega)
   refine sd ?_
   refine hvs _ _ ?_
   refine sd ?_
   refine sd ?_
   refine sd ?_
   refine an ?_ ?_
   refine an ?_ ?_
   exact rfl
   refine an ?_ ?_
   exact rfl
   refine an ?_ ?_
   exact rfl
   refine an ?_ ?_
   (show (List.length (iss A)+(1:Nat)) * (24:Nat)≤(2:Nat) ^ (47:Nat); omega)
   (show List.length (iss A)+(1:Nat)≤(2:Nat) ^ (47:Nat); omega)
   refine ar_add ?_ ?_
   refine an ?_ ?_
   (show (-9223372036854775808:Int)≤(↑k:Int)+(1:Int); omega)
   (show (↑k:Int)+(1:Int)≤(9223372036854775807:Int); omega)
   rotate_left
   (exfalso; omega)
   all_goals exact fin _
 ·have e:k=L.length:=by omega
  subst e
  refine sd ?_
  refine b_lt (fun t1=>?_) (fun t1=>?_)
  (exfalso; omega)
  rotate_left
  exact hQ
theorem v10j {N:Nat} {f:Int × Int} {ms:List (Int × Int)} (hf:cI f=0) (hm6:ms.length≤6) (hm:∀ x∈ms,cI x=0) {Q:AExit→St→Prop} (hQ:Q .normal ⟨[],[.none,.none,.none,.none,.none,.none,.none,.none,.none,.none,.none,.none,.none,.none,.none,.none,.none,.none,.none,.none,.none,.none,.none,.none]⟩):vc Tryz.prog N seg10x16 ⟨[(5,.ptr 0 0),(37,.ptr 22 0),(334,.d (.int .i64 (((ivs ms).length:Nat)))),(335,.d (.int .i64 (0)))],[.cbox [.int .i64 f.1,.int .i64 f.2,.slice 2 (ivs ms)],.none,.none,.none,.none,.none,.none,.none,.none,.none,.none,.none,.none,.none,.none,.none,.none,.none,.none,.none,.none,.none,.box [.d (.int .i64 (f.1)),.d (.int .i64 (f.2))],.none]⟩ Q:=by
 unfold seg10x16
 have hlm:=ivs_len ms
 refine loop_st (fun k:Nat=>⟨[(5,.ptr 0 0),(37,.ptr 22 0),(334,.d (.int .i64 (((ivs ms).length:Nat)))),(335,.d (.int .i64 ((k:Nat))))],[.cbox [.int .i64 f.1,.int .i64 f.2,.slice 2 (ivs ms)],.none,.none,.none,.none,.none,.none,.none,.none,.none,.none,.none,.none,.none,.none,.none,.none,.none,.none,.none,.none,.none,.box [.d (.int .i64 ((balG (ms.take k) f).1)),.d (.int .i64 ((balG (ms.take k) f).2))],.none]⟩) (fun k=>k≤ms.length) (fun k=>ms.length - k) 0 rfl (Nat.zero_le _) ?_
 intro k hk
 have hk:k≤ms.length:=hk
 dsimp only
 by_cases hkn:k < ms.length
 ·refine Exists.elim (get_lt ms hkn) fun x hx=>?_
  have hxc:=hm x (List.mem_of_getElem? hx)
  have hx1:=cI_ok hxc
  have hx2:=cI_ord hxc
  have hb:=bal_rng hf hm k hk
  have hb2:=bal_rng hf hm (k+1) hkn
  have hbs:=balG_snoc (ms.take k) x f
  rw [← take_one hx] at hbs
  have hbe:balE f (ms.take (k+1))=0:=bal_0 hf (by rw [List.length_take]; omega) fun y hy=>hm y (List.mem_of_mem_take hy)
  have hsl:((ivs ms).take ((k:Int)+1).toNat).drop ((0:Int)).toNat=ivs (ms.take (k+1)):=by
   show ((ivs ms).take (k+1)).drop 0=_
   rw [List.drop_zero]; unfold ivs; rw [List.map_take]
  have c52_:CallDet Tryz.prog 52 [.d (.slice 2 (((ivs ms).take ((k:Int)+1).toNat).drop ((0:Int)).toNat))] [.slice 2 (ivs (ms.take (k+1)))]:=by rw [hsl]; exact c52 (ms.take (k+1)) (by rw [List.length_take]; omega)
  have c51_:=c51 f (ms.take (k+1)) (by rw [List.length_take]; omega)
  have c53_:=c53 f (ms.take (k+1)) (by rw [List.length_take]; omega)
  unfold balV at c51_
  rw [hbe] at c51_ c53_
  have c51_:CallDet Tryz.prog 51 [.d (.agg [.int .i64 f.1,.int .i64 f.2]),.d (.slice 2 (ivs (ms.take (k+1))))] [.agg [.int .i64 (balG (ms.take (k+1)) f).1,.int .i64 (balG (ms.take (k+1)) f).2],.int .i64 0]:=c51_
  have c53_:CallDet Tryz.prog 53 [.d (.agg [.int .i64 f.1,.int .i64 f.2]),.d (.slice 2 (ivs (ms.take (k+1))))] [.int .i64 (verd (balG (ms.take (k+1)) f)),.int .i64 0]:=c53_
  have fin:∃ a':Nat,(a'≤ms.length∧ms.length - a' < ms.length - k)∧(⟨[(5,.ptr 0 0),(37,.ptr 22 0),(334,.d (.int .i64 (((ivs ms).length:Nat)))),(335,.d (.int .i64 (((k:Int)+1))))],[.cbox [.int .i64 f.1,.int .i64 f.2,.slice 2 (ivs ms)],.none,.none,.none,.none,.none,.none,.none,.none,.none,.none,.none,.none,.none,.none,.none,.none,.none,.none,.none,.none,.none,.box [.d (.int .i64 ((balG (ms.take (k+1)) f).1)),.d (.int .i64 ((balG (ms.take (k+1)) f).2))],.none]⟩:St)=⟨[(5,.ptr 0 0),(37,.ptr 22 0),(334,.d (.int .i64 (((ivs ms).length:Nat)))),(335,.d (.int .i64 ((a':Nat))))],[.cbox [.int .i64 f.1,.int .i64 f.2,.slice 2 (ivs ms)],.none,.none,.none,.none,.none,.none,.none,.none,.none,.none,.none,.none,.none,.none,.none,.none,.none,.none,.none,.none,.none,.box [.d (.int .i64 ((balG (ms.take a') f).1)),.d (.int .i64 ((balG (ms.take a') f).2))],.none]⟩:=⟨k+1,⟨by omega,by omega⟩,rfl⟩
  have hvd:=verd_spec (balG (ms.take (k+1)) f)
  have e1:(balG (ms.take (k+1)) f).1=(balG (ms.take k) f).1 - x.2:=by rw [hbs]
  have e2:(balG (ms.take (k+1)) f).2=(balG (ms.take k) f).2 - x.1:=by rw [hbs]
  clear hbs hm hf hbe hsl
  generalize verd (balG (ms.take (k+1)) f)=v at *
  generalize balG (ms.take (k+1)) f=b' at *
  generalize balG (ms.take k) f=b at *
  rcases hvd with ⟨rfl,h1⟩ | ⟨rfl,h1,h2⟩ | ⟨rfl,h1,h2⟩
  ·refine sd ?_
   refine b_lt (fun t1=>?_) (fun t1=>?_)
   refine ar_add ?_ ?_
   refine an ?_ ?_
   (show (-9223372036854775808:Int)≤(↑k:Int)+(1:Int); omega)
   (show (↑k:Int)+(1:Int)≤(9223372036854775807:Int); omega)
   refine an ?_ ?_
   refine an ?_ ?_
   exact rfl
   refine an ?_ ?_
   (show (0:Int)≤(0:Int); omega)
   refine an ?_ ?_
   (show (0:Int)≤(↑k:Int)+(1:Int); omega)
   assumption
   refine ca c52_ ?_
   refine ca c51_ ?_
   refine ar_add ?_ ?_
   refine an ?_ ?_
   (show (-9223372036854775808:Int)≤(↑k:Int)+(1:Int); omega)
   (show (↑k:Int)+(1:Int)≤(9223372036854775807:Int); omega)
   refine an ?_ ?_
   refine an ?_ ?_
   exact rfl
   refine an ?_ ?_
   (show (0:Int)≤(0:Int); omega)
   refine an ?_ ?_
   (show (0:Int)≤(↑k:Int)+(1:Int); omega)
   assumption
   refine ca c52_ ?_
   refine ca c53_ ?_
   refine sd ?_
   refine sd ?_
   refine sd ?_
   refine b_lt (fun t2=>?_) (fun t2=>?_)
   (exfalso; omega)
   refine sd ?_
   refine b_lt (fun t3=>?_) (fun t3=>?_)
   (exfalso; omega)
   refine sd ?_
   refine b_lt (fun t4=>?_) (fun t4=>?_)
   (exfalso; omega)
   refine ar_sub ?_ ?_
   refine an ?_ ?_
   (show (-9223372036854775808:Int)≤Prod.snd b' - Prod.fst b'; omega)
   (show Prod.snd b' - Prod.fst b'≤(9223372036854775807:Int); omega)
   refine ar_sub ?_ ?_
   refine an ?_ ?_
   (show (-9223372036854775808:Int)≤Prod.snd b - Prod.fst b; omega)
   (show Prod.snd b - Prod.fst b≤(9223372036854775807:Int); omega)
   refine sd ?_
   refine b_lt (fun t5=>?_) (fun t5=>?_)
   (exfalso; omega)
   refine sd ?_
   refine sd ?_
   refine b_lt (fun t6=>?_) (fun t6=>?_)
   (exfalso; omega)
   refine sd ?_
   refine sd ?_
   refine sd ?_
   refine sd ?_
   refine sd ?_
   refine sd ?_
   refine ar_add ?_ ?_
   refine an ?_ ?_
   (show (-9223372036854775808:Int)≤(↑k:Int)+(1:Int); omega)
   (show (↑k:Int)+(1:Int)≤(9223372036854775807:Int); omega)
   rotate_left
   (exfalso; omega)
   all_goals exact fin
  ·refine sd ?_
   refine b_lt (fun t1=>?_) (fun t1=>?_)
   refine ar_add ?_ ?_
   refine an ?_ ?_
   (show (-9223372036854775808:Int)≤(↑k:Int)+(1:Int); omega)
   (show (↑k:Int)+(1:Int)≤(9223372036854775807:Int); omega)
   refine an ?_ ?_
   refine an ?_ ?_
   exact rfl
   refine an ?_ ?_
   (show (0:Int)≤(0:Int); omega)
   refine an ?_ ?_
   (show (0:Int)≤(↑k:Int)+(1:Int); omega)
   assumption
   refine ca c52_ ?_
   refine ca c51_ ?_
   refine ar_add ?_ ?_
   refine an ?_ ?_
   (show (-9223372036854775808:Int)≤(↑k:Int)+(1:Int); omega)
   (show (↑k:Int)+(1:Int)≤(9223372036854775807:Int); omega)
   refine an ?_ ?_
   refine an ?_ ?_
   exact rfl
   refine an ?_ ?_
   (show (0:Int)≤(0:Int); omega)
   refine an ?_ ?_
   (show (0:Int)≤(↑k:Int)+(1:Int); omega)
   assumption
   refine ca c52_ ?_
   refine ca c53_ ?_
   refine sd ?_
   refine sd ?_
   refine sd ?_
   refine b_lt (fun t2=>?_) (fun t2=>?_)
   (exfalso; omega)
   refine sd ?_
   refine b_lt (fun t3=>?_) (fun t3=>?_)
   (exfalso; omega)
   refine sd ?_
   refine b_lt (fun t4=>?_) (fun t4=>?_)
   (exfalso; omega)
   refine ar_sub ?_ ?_
   refine an ?_ ?_
   (show (-9223372036854775808:Int)≤Prod.snd b' - Prod.fst b'; omega)
   (show Prod.snd b' - Prod.fst b'≤(9223372036854775807:Int); omega)
   refine ar_sub ?_ ?_
   refine an ?_ ?_
   (show (-9223372036854775808:Int)≤Prod.snd b - Prod.fst b; omega)
   (show Prod.snd b - Prod.fst b≤(9223372036854775807:Int); omega)
   refine sd ?_
   refine b_lt (fun t5=>?_) (fun t5=>?_)
   (exfalso; omega)
   refine sd ?_
   refine sd ?_
   refine sd ?_
   refine sd ?_
   refine b_lt (fun t6=>?_) (fun t6=>?_)
   (exfalso; omega)
   refine sd ?_
   refine sd ?_
   refine sd ?_
   refine sd ?_
   refine ar_add ?_ ?_
   refine an ?_ ?_
   (show (-9223372036854775808:Int)≤(↑k:Int)+(1:Int); omega)
   (show (↑k:Int)+(1:Int)≤(9223372036854775807:Int); omega)
   rotate_left
   (exfalso; omega)
   all_goals exact fin
  ·refine sd ?_
   refine b_lt (fun t1=>?_) (fun t1=>?_)
   refine ar_add ?_ ?_
   refine an ?_ ?_
   (show (-9223372036854775808:Int)≤(↑k:Int)+(1:Int); omega)
   (show (↑k:Int)+(1:Int)≤(9223372036854775807:Int); omega)
   refine an ?_ ?_
   refine an ?_ ?_
   exact rfl
   refine an ?_ ?_
   (show (0:Int)≤(0:Int); omega)
   refine an ?_ ?_
   (show (0:Int)≤(↑k:Int)+(1:Int); omega)
   assumption
   refine ca c52_ ?_
   refine ca c51_ ?_
   refine ar_add ?_ ?_
   refine an ?_ ?_
   (show (-9223372036854775808:Int)≤(↑k:Int)+(1:Int); omega)
   (show (↑k:Int)+(1:Int)≤(9223372036854775807:Int); omega)
   refine an ?_ ?_
   refine an ?_ ?_
   exact rfl
   refine an ?_ ?_
   (show (0:Int)≤(0:Int); omega)
   refine an ?_ ?_
   (show (0:Int)≤(↑k:Int)+(1:Int); omega)
   assumption
   refine ca c52_ ?_
   refine ca c53_ ?_
   refine sd ?_
   refine sd ?_
   refine sd ?_
   refine b_lt (fun t2=>?_) (fun t2=>?_)
   (exfalso; omega)
   refine sd ?_
   refine b_lt (fun t3=>?_) (fun t3=>?_)
   (exfalso; omega)
   refine sd ?_
   refine b_lt (fun t4=>?_) (fun t4=>?_)
   (exfalso; omega)
   refine ar_sub ?_ ?_
   refine an ?_ ?_
   (show (-9223372036854775808:Int)≤Prod.snd b' - Prod.fst b'; omega)
   (show Prod.snd b' - Prod.fst b'≤(9223372036854775807:Int); omega)
   refine ar_sub ?_ ?_
   refine an ?_ ?_
   (show (-9223372036854775808:Int)≤Prod.snd b - Prod.fst b; omega)
   (show Prod.snd b - Prod.fst b≤(9223372036854775807:Int); omega)
   refine sd ?_
   refine b_lt (fun t5=>?_) (fun t5=>?_)
   (exfalso; omega)
   refine sd ?_
   refine sd ?_
   refine sd ?_
   refine sd ?_
   refine sd ?_
   refine sd ?_
   refine b_lt (fun t6=>?_) (fun t6=>?_)
   (exfalso; omega)
   refine sd ?_
   refine b_lt (fun t7=>?_) (fun t7=>?_)
   (exfalso; omega)
   refine sd ?_
   refine sd ?_
   refine ar_add ?_ ?_
   refine an ?_ ?_
   (show (-9223372036854775808:Int)≤(↑k:Int)+(1:Int); omega)
   (show (↑k:Int)+(1:Int)≤(9223372036854775807:Int); omega)
   rotate_left
   (exfalso; omega)
   all_goals exact fin
 ·have e:k=ms.length:=by omega
  subst e
  refine sd ?_
  refine b_lt (fun t1=>?_) (fun t1=>?_)
  (exfalso; omega)
  rotate_left
  exact hQ
end Vc
set_option maxRecDepth 10000
set_option maxHeartbeats 4000000
namespace Vc
open Go Go.Proofs
@[irreducible] def seg10r5 (s16:ACode):ACode:=(.seq
 (.reg [22] [⟨some 330,.fad 0 (.tmp 5),none⟩,
 ⟨some 331,.ld true 2 (.tmp 330),none⟩,
 ⟨some 37,.alloc 22 [(.d (.int .i64 0)),(.d (.int .i64 0))],none⟩,
 ⟨none,.st 2 (.tmp 37) (.tmp 331),none⟩])
 (.seq
 (.seq
 (.reg [] [⟨some 332,.fad 2 (.tmp 5),none⟩,
 ⟨some 333,.ld false 1 (.tmp 332),none⟩,
 ⟨some 334,.len (.tmp 333),none⟩,
 ⟨some 335,.mov (.cst (.d (.int .i64 0))),none⟩])
 (.keep [5,37,334,335] [] s16))
 (.seq
 (.reg [] [⟨some 444,.call 13 [],none⟩,
 ⟨some 6,.mov (.tmp 444),none⟩])
 .ret)))
@[irreducible] def seg10r4 (s10 r5:ACode):ACode:=(.seq
 (.reg [] [⟨some 28,.mov (.cst (.nils 1)),none⟩])
 (.seq
 (.seq
 (.reg [] [⟨some 272,.mov (.tmp 1),none⟩,
 ⟨some 273,.len (.tmp 272),none⟩,
 ⟨some 274,.mov (.cst (.d (.int .i64 0))),none⟩])
 (.keep [0,5,28,272,273,274] [] s10))
 (.keep [5] [] r5)))
@[irreducible] def seg10r3 (s8 r4:ACode):ACode:=(.seq
 (.reg [16] [⟨some 230,.mov (.tmp 0),none⟩,
 ⟨some 231,.len (.tmp 230),none⟩,
 ⟨some 232,.mov (.tmp 21),none⟩,
 ⟨some 233,.mov (.tmp 20),none⟩,
 ⟨some 234,.build [(.nils 1),(.d (.int .i64 0))] [(0,1,(.tmp 232)),(1,1,(.tmp 233))],none⟩,
 ⟨some 235,.bsl 16 155 2 1 [(.agg [(.slice 1 []),(.int .i64 0)])] [(0,(.tmp 234))],none⟩,
 ⟨some 236,.call 48 [(.tmp 231),(.cst (.d (.int .i64 7))),(.tmp 235)],none⟩,
 ⟨some 229,.mov (.tmp 236),none⟩,
 ⟨some 237,.ext 0 (.tmp 229),none⟩,
 ⟨some 238,.ext 1 (.tmp 229),none⟩,
 ⟨some 24,.mov (.tmp 237),none⟩,
 ⟨some 25,.mov (.tmp 238),none⟩])
 (.seq
 (.seq
 (.reg [] [⟨some 239,.mov (.tmp 25),none⟩,
 ⟨some 240,.cmp .neq (.tmp 239) (.cst (.d (.int .i64 0))),none⟩,
 ⟨some 241,.mov (.tmp 240),none⟩,
 ⟨some 242,.mov (.tmp 24),some (241,false)⟩,
 ⟨some 243,.len (.tmp 242),some (241,false)⟩,
 ⟨some 244,.mov (.tmp 0),some (241,false)⟩,
 ⟨some 245,.len (.tmp 244),some (241,false)⟩,
 ⟨some 246,.cmp .neq (.tmp 243) (.tmp 245),some (241,false)⟩,
 ⟨some 247,.pick (.tmp 241) (.cst (.d (.bool true))) (.tmp 246),none⟩])
 (.cond (.tmp 247)
 (.seq
 (.reg [] [⟨some 6,.mov (.cst (.d (.bool false))),none⟩])
 .ret)
 .skip))
 (.seq
 (.seq
 (.reg [] [⟨some 248,.mov (.tmp 24),none⟩,
 ⟨some 249,.len (.tmp 248),none⟩,
 ⟨some 250,.mov (.cst (.d (.int .i64 0))),none⟩])
 (.keep [0,1,5,20,248,249,250] [15,16] s8))
 (.keep [0,1,5] [] r4))))
@[irreducible] def seg10r2 (s6 r3:ACode):ACode:=(.seq
 (.reg [] [⟨some 20,.mov (.cst (.d (.int .i64 0))),none⟩])
 (.seq
 (.reg [] [⟨some 21,.mov (.cst (.nils 1)),none⟩])
 (.seq
 (.seq
 (.reg [] [⟨some 214,.mov (.tmp 0),none⟩,
 ⟨some 215,.len (.tmp 214),none⟩,
 ⟨some 216,.mov (.cst (.d (.int .i64 0))),none⟩])
 (.keep [0,1,5,20,21,214,215,216] [] s6))
 (.keep [0,1,5,20,21] [] r3))))
@[irreducible] def seg10r1 (s0 r2:ACode):ACode:=(.seq
 (.reg [] [⟨some 7,.mov (.cst (.nils 2)),none⟩])
 (.seq
 (.reg [] [⟨some 8,.mov (.cst (.d (.slice 2 []))),none⟩])
 (.seq
 (.seq
 (.reg [] [⟨some 82,.mov (.tmp 1),none⟩,
 ⟨some 83,.len (.tmp 82),none⟩,
 ⟨some 84,.mov (.cst (.d (.int .i64 0))),none⟩])
 (.keep [0,1,5,7,8,82,83,84] [] s0))
 (.keep [0,1,5] [] r2))))
def jr10 (r1:ACode):AFun:=⟨445,24,[.tmp 6],
 (.seq
 (.reg [0] [⟨some 5,.cbx 0 3 (.tmp 2),none⟩,
  ⟨some 6,.mov (.cst (.d (.bool false))),none⟩])
 (.seq
  (.seq
  (.reg [] [⟨some 43,.mov (.tmp 0),none⟩,
   ⟨some 44,.call 44 [(.tmp 43)],none⟩,
   ⟨some 45,.cmp .neq (.tmp 44) (.cst (.d (.int .i64 0))),none⟩,
   ⟨some 46,.mov (.tmp 45),none⟩,
   ⟨some 47,.mov (.tmp 1),some (46,false)⟩,
   ⟨some 48,.len (.tmp 47),some (46,false)⟩,
   ⟨some 49,.cmp .lss (.tmp 48) (.cst (.d (.int .i64 1))),some (46,false)⟩,
   ⟨some 50,.pick (.tmp 46) (.cst (.d (.bool true))) (.tmp 49),none⟩,
   ⟨some 51,.mov (.tmp 50),none⟩,
   ⟨some 52,.mov (.tmp 1),some (51,false)⟩,
   ⟨some 53,.len (.tmp 52),some (51,false)⟩,
   ⟨some 54,.cmp .gtr (.tmp 53) (.cst (.d (.int .i64 5))),some (51,false)⟩,
   ⟨some 55,.pick (.tmp 51) (.cst (.d (.bool true))) (.tmp 54),none⟩,
   ⟨some 56,.mov (.tmp 55),none⟩,
   ⟨some 57,.mov (.tmp 0),some (56,false)⟩,
   ⟨some 58,.len (.tmp 57),some (56,false)⟩,
   ⟨some 59,.mov (.tmp 1),some (56,false)⟩,
   ⟨some 60,.call 42 [(.tmp 58),(.tmp 59)],some (56,false)⟩,
   ⟨some 61,.cmp .neq (.tmp 60) (.cst (.d (.int .i64 0))),some (56,false)⟩,
   ⟨some 62,.pick (.tmp 56) (.cst (.d (.bool true))) (.tmp 61),none⟩,
   ⟨some 63,.mov (.tmp 62),none⟩,
   ⟨some 64,.fad 0 (.tmp 5),some (63,false)⟩,
   ⟨some 65,.ld true 2 (.tmp 64),some (63,false)⟩,
   ⟨some 66,.call 57 [(.tmp 65)],some (63,false)⟩,
   ⟨some 67,.cmp .neq (.tmp 66) (.cst (.d (.int .i64 0))),some (63,false)⟩,
   ⟨some 68,.pick (.tmp 63) (.cst (.d (.bool true))) (.tmp 67),none⟩,
   ⟨some 69,.mov (.tmp 68),none⟩,
   ⟨some 70,.fad 2 (.tmp 5),some (69,false)⟩,
   ⟨some 71,.ld false 1 (.tmp 70),some (69,false)⟩,
   ⟨some 72,.call 58 [(.tmp 71)],some (69,false)⟩,
   ⟨some 73,.cmp .neq (.tmp 72) (.cst (.d (.int .i64 0))),some (69,false)⟩,
   ⟨some 74,.pick (.tmp 69) (.cst (.d (.bool true))) (.tmp 73),none⟩,
   ⟨some 75,.mov (.tmp 74),none⟩,
   ⟨some 76,.fad 2 (.tmp 5),some (75,false)⟩,
   ⟨some 77,.ld false 1 (.tmp 76),some (75,false)⟩,
   ⟨some 78,.len (.tmp 77),some (75,false)⟩,
   ⟨some 79,.cmp .gtr (.tmp 78) (.cst (.d (.int .i64 6))),some (75,false)⟩,
   ⟨some 80,.pick (.tmp 75) (.cst (.d (.bool true))) (.tmp 79),none⟩])
  (.cond (.tmp 80)
   (.seq
   (.reg [] [⟨some 81,.call 13 [],none⟩,
    ⟨some 6,.mov (.tmp 81),none⟩])
   .ret)
   .skip))
  (.keep [0,1,5] [] r1)))⟩
theorem r10e {s16:ACode} {u:List Int} {L:List (List Int)} {f:Int × Int} {ms:List (Int × Int)} (hve:∀ Q:AExit→St→Prop,Q .normal ⟨[],[.none,.none,.none,.none,.none,.none,.none,.none,.none,.none,.none,.none,.none,.none,.none,.none,.none,.none,.none,.none,.none,.none,.none,.none]⟩→vc Tryz.prog 445 s16 ⟨[(5,.ptr 0 0),(37,.ptr 22 0),(334,.d (.int .i64 (((ivs ms).length:Nat)))),(335,.d (.int .i64 (0)))],[.cbox [.int .i64 f.1,.int .i64 f.2,.slice 2 (ivs ms)],.none,.none,.none,.none,.none,.none,.none,.none,.none,.none,.none,.none,.none,.none,.none,.none,.none,.none,.none,.none,.none,.box [.d (.int .i64 (f.1)),.d (.int .i64 (f.2))],.none]⟩ Q) {Q:AExit→St→Prop} (hQ:Q .ret ⟨[(6,.d (.bool true)),(444,.d (.bool true))],[.none,.none,.none,.none,.none,.none,.none,.none,.none,.none,.none,.none,.none,.none,.none,.none,.none,.none,.none,.none,.none,.none,.none,.none]⟩):vc Tryz.prog 445 (seg10r5 s16) ⟨[(5,.ptr 0 0)],[.cbox [.int .i64 f.1,.int .i64 f.2,.slice 2 (ivs ms)],.none,.none,.none,.none,.none,.none,.none,.none,.none,.none,.none,.none,.none,.none,.none,.none,.none,.none,.none,.none,.none,.none,.none]⟩ Q:=by
 unfold seg10r5
 have hlm:=ivs_len ms
 refine hve _ ?_
 refine ca (c13) ?_
 rotate_left
 exact hQ
theorem r10d {s10 r5:ACode} {u:List Int} {L:List (List Int)} {f:Int × Int} {ms:List (Int × Int)} (hvd:∀ Q:AExit→St→Prop,Q .normal ⟨[(5,.ptr 0 0)],[.cbox [.int .i64 f.1,.int .i64 f.2,.slice 2 (ivs ms)],.none,.none,.none,.none,.none,.none,.none,.none,.none,.none,.none,.none,.none,.none,.none,.none,.none,.none,.none,.none,.none,.none,.none]⟩→vc Tryz.prog 445 s10 ⟨[(0,.d (.slice 1 (ints u))),(5,.ptr 0 0),(28,.nils 1),(272,.d (.slice 1 (iss L))),(273,.d (.int .i64 (((iss L).length:Nat)))),(274,.d (.int .i64 (0)))],[.cbox [.int .i64 f.1,.int .i64 f.2,.slice 2 (ivs ms)],.none,.none,.none,.none,.none,.none,.none,.none,.none,.none,.none,.none,.none,.none,.none,.none,.none,.none,.none,.none,.none,.none,.none]⟩ Q) {Q:AExit→St→Prop} (hr:vc Tryz.prog 445 r5 ⟨[(5,.ptr 0 0)],[.cbox [.int .i64 f.1,.int .i64 f.2,.slice 2 (ivs ms)],.none,.none,.none,.none,.none,.none,.none,.none,.none,.none,.none,.none,.none,.none,.none,.none,.none,.none,.none,.none,.none,.none,.none]⟩ Q):vc Tryz.prog 445 (seg10r4 s10 r5) ⟨[(0,.d (.slice 1 (ints u))),(1,.d (.slice 1 (iss L))),(5,.ptr 0 0)],[.cbox [.int .i64 f.1,.int .i64 f.2,.slice 2 (ivs ms)],.none,.none,.none,.none,.none,.none,.none,.none,.none,.none,.none,.none,.none,.none,.none,.none,.none,.none,.none,.none,.none,.none,.none]⟩ Q:=by
 unfold seg10r4
 have hlu:=ints_len u
 have hlL:=iss_len L
 refine hvd _ ?_
 rotate_left
 exact hr
theorem r10c {s8 r4 : ACode} {u : List Int} {L : List (List Int)} {f : Int × Int} {ms : List (Int × Int)} {K : List (Int × Int)} {T : Int} (ho1 : 1 ≤ u.length ∧ u.length ≤ 5) (hKl : (ivs K).length = u.length)
  (c48_:CallDet Tryz.prog 48 [.d (.int .i64 (((ints u).length:Nat):Int)),.d (.int .i64 7),.d (.slice 2 [Data.agg [.slice 1 (ints (rngI u.length)),.int .i64 T]])] [.slice 2 (ivs K),.int .i64 0]) (hvc:∀ Q:AExit→St→Prop,Q .normal ⟨[(0,.d (.slice 1 (ints u))),(1,.d (.slice 1 (iss L))),(5,.ptr 0 0)],[.cbox [.int .i64 f.1,.int .i64 f.2,.slice 2 (ivs ms)],.none,.none,.none,.none,.none,.none,.none,.none,.none,.none,.none,.none,.none,.none,.none,.none,.none,.none,.none,.none,.none,.none,.none]⟩→vc Tryz.prog 445 s8 ⟨[(0,.d (.slice 1 (ints u))),(1,.d (.slice 1 (iss L))),(5,.ptr 0 0),(20,.d (.int .i64 (T))),(248,.d (.slice 2 (ivs K))),(249,.d (.int .i64 (((ivs K).length:Nat)))),(250,.d (.int .i64 (0)))],[.cbox [.int .i64 f.1,.int .i64 f.2,.slice 2 (ivs ms)],.none,.none,.none,.none,.none,.none,.none,.none,.none,.none,.none,.none,.none,.none,.none,.none,.none,.none,.none,.none,.none,.none,.none]⟩ Q) {Q:AExit→St→Prop} (hr:vc Tryz.prog 445 r4 ⟨[(0,.d (.slice 1 (ints u))),(1,.d (.slice 1 (iss L))),(5,.ptr 0 0)],[.cbox [.int .i64 f.1,.int .i64 f.2,.slice 2 (ivs ms)],.none,.none,.none,.none,.none,.none,.none,.none,.none,.none,.none,.none,.none,.none,.none,.none,.none,.none,.none,.none,.none,.none,.none]⟩ Q):vc Tryz.prog 445 (seg10r3 s8 r4) ⟨[(0,.d (.slice 1 (ints u))),(1,.d (.slice 1 (iss L))),(5,.ptr 0 0),(20,.d (.int .i64 (T))),(21,.sl 15 (ints (rngI u.length)).length)],[.cbox [.int .i64 f.1,.int .i64 f.2,.slice 2 (ivs ms)],.none,.none,.none,.none,.none,.none,.none,.none,.none,.none,.none,.none,.none,.none,.row 3 1 (ints (rngI u.length)) false,.none,.none,.none,.none,.none,.none,.none,.none]⟩ Q:=by
 unfold seg10r3
 have hlu:=ints_len u
 have hlL:=iss_len L
 have hrl:(ints (rngI u.length)).length=u.length:=by rw [ints_len,rngI_len]
 refine sd ?_
 refine sd ?_
 refine sd ?_
 refine sd ?_
 refine ca c48_ ?_
 refine sd ?_
 refine sd ?_
 refine b_ne (fun t1=>?_) (fun t1=>?_)
 (exfalso; omega)
 refine hvc _ ?_
 rotate_left
 exact hr
theorem r10b {s6 r3:ACode} {u:List Int} {L:List (List Int)} {f:Int × Int} {ms:List (Int × Int)} {T:Int} (hvb:∀ Q:AExit→St→Prop,Q .normal ⟨[(0,.d (.slice 1 (ints u))),(1,.d (.slice 1 (iss L))),(5,.ptr 0 0),(20,.d (.int .i64 (T))),(21,.sl 15 (ints (rngI u.length)).length)],[.cbox [.int .i64 f.1,.int .i64 f.2,.slice 2 (ivs ms)],.none,.none,.none,.none,.none,.none,.none,.none,.none,.none,.none,.none,.none,.none,.row 3 1 (ints (rngI u.length)) false,.none,.none,.none,.none,.none,.none,.none,.none]⟩→vc Tryz.prog 445 s6 ⟨[(0,.d (.slice 1 (ints u))),(1,.d (.slice 1 (iss L))),(5,.ptr 0 0),(20,.d (.int .i64 (0))),(21,.nils 1),(214,.d (.slice 1 (ints u))),(215,.d (.int .i64 (((ints u).length:Nat)))),(216,.d (.int .i64 (0)))],[.cbox [.int .i64 f.1,.int .i64 f.2,.slice 2 (ivs ms)],.none,.none,.none,.none,.none,.none,.none,.none,.none,.none,.none,.none,.none,.none,.none,.none,.none,.none,.none,.none,.none,.none,.none]⟩ Q) {Q:AExit→St→Prop} (hr:vc Tryz.prog 445 r3 ⟨[(0,.d (.slice 1 (ints u))),(1,.d (.slice 1 (iss L))),(5,.ptr 0 0),(20,.d (.int .i64 (T))),(21,.sl 15 (ints (rngI u.length)).length)],[.cbox [.int .i64 f.1,.int .i64 f.2,.slice 2 (ivs ms)],.none,.none,.none,.none,.none,.none,.none,.none,.none,.none,.none,.none,.none,.none,.row 3 1 (ints (rngI u.length)) false,.none,.none,.none,.none,.none,.none,.none,.none]⟩ Q):vc Tryz.prog 445 (seg10r2 s6 r3) ⟨[(0,.d (.slice 1 (ints u))),(1,.d (.slice 1 (iss L))),(5,.ptr 0 0)],[.cbox [.int .i64 f.1,.int .i64 f.2,.slice 2 (ivs ms)],.none,.none,.none,.none,.none,.none,.none,.none,.none,.none,.none,.none,.none,.none,.none,.none,.none,.none,.none,.none,.none,.none,.none]⟩ Q:=by
 unfold seg10r2
 have hlu:=ints_len u
 have hlL:=iss_len L
 refine hvb _ ?_
 rotate_left
 exact hr
theorem r10a {s0 r2:ACode} {u:List Int} {L:List (List Int)} {f:Int × Int} {ms:List (Int × Int)} (hva:∀ Q:AExit→St→Prop,Q .normal ⟨[(0,.d (.slice 1 (ints u))),(1,.d (.slice 1 (iss L))),(5,.ptr 0 0)],[.cbox [.int .i64 f.1,.int .i64 f.2,.slice 2 (ivs ms)],.none,.none,.none,.none,.none,.none,.none,.none,.none,.none,.none,.none,.none,.none,.none,.none,.none,.none,.none,.none,.none,.none,.none]⟩→vc Tryz.prog 445 s0 ⟨[(0,.d (.slice 1 (ints u))),(1,.d (.slice 1 (iss L))),(5,.ptr 0 0),(7,.nils 2),(8,.d (.slice 2 (ivs ([])))),(82,.d (.slice 1 (iss L))),(83,.d (.int .i64 (((iss L).length:Nat)))),(84,.d (.int .i64 (0)))],[.cbox [.int .i64 f.1,.int .i64 f.2,.slice 2 (ivs ms)],.none,.none,.none,.none,.none,.none,.none,.none,.none,.none,.none,.none,.none,.none,.none,.none,.none,.none,.none,.none,.none,.none,.none]⟩ Q) {Q:AExit→St→Prop} (hr:vc Tryz.prog 445 r2 ⟨[(0,.d (.slice 1 (ints u))),(1,.d (.slice 1 (iss L))),(5,.ptr 0 0)],[.cbox [.int .i64 f.1,.int .i64 f.2,.slice 2 (ivs ms)],.none,.none,.none,.none,.none,.none,.none,.none,.none,.none,.none,.none,.none,.none,.none,.none,.none,.none,.none,.none,.none,.none,.none]⟩ Q):vc Tryz.prog 445 (seg10r1 s0 r2) ⟨[(0,.d (.slice 1 (ints u))),(1,.d (.slice 1 (iss L))),(5,.ptr 0 0)],[.cbox [.int .i64 f.1,.int .i64 f.2,.slice 2 (ivs ms)],.none,.none,.none,.none,.none,.none,.none,.none,.none,.none,.none,.none,.none,.none,.none,.none,.none,.none,.none,.none,.none,.none,.none]⟩ Q:=by
 unfold seg10r1
 have hlu:=ints_len u
 have hlL:=iss_len L
 refine hva _ ?_
 rotate_left
 exact hr
theorem walk10 {r1 : ACode} {u : List Int} {L : List (List Int)} {f : Int × Int} {ms : List (Int × Int)} (ho1 : 1 ≤ u.length ∧ u.length ≤ 5) (g5 : 1 ≤ L.length ∧ L.length ≤ 5 ∧ ms.length ≤ 6)
  (c44_:CallDet Tryz.prog 44 [.d (.slice 1 (ints u))] [.int .i64 0]) (c42_:CallDet Tryz.prog 42 [.d (.int .i64 (((ints u).length:Nat):Int)),.d (.slice 1 (iss L))] [.int .i64 0]) (c57_:CallDet Tryz.prog 57 [.d (.agg [.int .i64 f.1,.int .i64 f.2])] [.int .i64 0]) (c58_:CallDet Tryz.prog 58 [.d (.slice 2 (ivs ms))] [.int .i64 0])
  (hr:∀ Q:AExit→St→Prop,Q .ret ⟨[(6,.d (.bool true)),(444,.d (.bool true))],[.none,.none,.none,.none,.none,.none,.none,.none,.none,.none,.none,.none,.none,.none,.none,.none,.none,.none,.none,.none,.none,.none,.none,.none]⟩→vc Tryz.prog 445 r1 ⟨[(0,.d (.slice 1 (ints u))),(1,.d (.slice 1 (iss L))),(5,.ptr 0 0)],[.cbox [.int .i64 f.1,.int .i64 f.2,.slice 2 (ivs ms)],.none,.none,.none,.none,.none,.none,.none,.none,.none,.none,.none,.none,.none,.none,.none,.none,.none,.none,.none,.none,.none,.none,.none]⟩ Q):vc Tryz.prog (jr10 r1).n (jr10 r1).body (startS (jr10 r1) [.d (.slice 1 (ints u)),.d (.slice 1 (iss L)),.d (.agg [.int .i64 f.1,.int .i64 f.2,.slice 2 (ivs ms)])]) (postF (jr10 r1) [.bool true]):=by
 have hlu:=ints_len u
 have hlL:=iss_len L
 have hlm:=ivs_len ms
 refine ca c44_ ?_
 refine sd ?_
 refine sd ?_
 refine b_lt (fun t1=>?_) (fun t1=>?_)
 (exfalso; omega)
 refine sd ?_
 refine b_lt (fun t2=>?_) (fun t2=>?_)
 (exfalso; omega)
 refine ca c42_ ?_
 refine sd ?_
 refine ca c57_ ?_
 refine sd ?_
 refine ca c58_ ?_
 refine sd ?_
 refine sd ?_
 refine b_lt (fun t3=>?_) (fun t3=>?_)
 (exfalso; omega)
 refine hr _ ?_
 exact rfl
theorem law10 (u : List Int) (L : List (List Int)) (f : Int × Int) (ms : List (Int × Int)) (hul : u.length ≤ 1048576) (hLl : L.length ≤ 1048576) (hLs : ∀ s ∈ L, s.length ≤ 1048576) (hml : ms.length ≤ 1048576) :
  CallDet Tryz.prog 10 [.d (.slice 1 (ints u)),.d (.slice 1 (iss L)),.d (.agg [.int .i64 f.1,.int .i64 f.2,.slice 2 (ivs ms)])] [.bool true]:=by
 have hlu:=ints_len u
 have hlL:=iss_len L
 have hlm:=ivs_len ms
 have c44_:=c44 u hul
 have c42_:=c42 (((ints u).length:Nat):Int) L hLl hLs
 have c57_:=c57 f
 have c58_:=c58 ms hml
 by_cases g1:usesE u=0
 ·by_cases g2:setsE (((ints u).length:Nat):Int) L=0
  ·by_cases g3:cI f=0
   ·by_cases g4:metE ms=0
    ·by_cases g5:1≤L.length∧L.length≤5∧ms.length≤6
     ·obtain ⟨ho1,ho2,ho3⟩:=uses_ok g1
      have hs:=(sets_ok g2).2
      rw [hlu] at hs
      have hm:=(met_ok g4).2
      rw [g1] at c44_
      rw [g2] at c42_
      rw [g3] at c57_
      rw [g4] at c58_
      have ht:=tot_rng ho2
      have hak:=all_ok ho2 ho1
      have c48_:=c48 (u.length:Int) 7 [⟨rngI u.length,tot u⟩] (by show 1≤1048576; omega) fun x hx=>by rw [List.mem_singleton.1 hx]; show (rngI u.length).length≤1048576; rw [rngI_len]; omega
      rw [hak.1,hak.2] at c48_
      have c48_:CallDet Tryz.prog 48 [.d (.int .i64 (((ints u).length:Nat):Int)),.d (.int .i64 7),.d (.slice 2 [Data.agg [.slice 1 (ints (rngI u.length)),.int .i64 (tot u)]])] [.slice 2 (ivs (kU u [⟨rngI u.length,tot u⟩])),.int .i64 0]:=by rw [hlu]; exact c48_
      have hKl:(ivs (kU u [⟨rngI u.length,tot u⟩])).length=u.length:=by rw [ivs_len,kU_len]
      have hrl:(ints (rngI u.length)).length=u.length:=by rw [ints_len,rngI_len]
      have hva:=fun (Q:AExit→St→Prop)=>v10a (N:=445) (u:=u) (L:=L) (f:=f) (ms:=ms) ho2 ho1 ho3 hs g5.2.1 hLs (fun A B q e1 e2 Q hQ=>v10b e1 e2 hQ) (fun A K B q e1 e2 e3 Q hQ=>v10d e1 ho1.2 e2 e3 hQ) (Q:=Q)
      have hvb:=fun (Q:AExit→St→Prop)=>v10e (N:=445) (u:=u) (L:=L) (f:=f) (ms:=ms) ho2 ho1.2 (Q:=Q)
      have hvc:=fun (Q:AExit→St→Prop)=>v10f (N:=445) (u:=u) (L:=L) (f:=f) (ms:=ms) (K:=kU u [⟨rngI u.length,tot u⟩]) (T:=tot u) (kU_len _ _) ho1 (by omega) (fun j hj=>kA_at ho2 hj) (Q:=Q)
      have hvd:=fun (Q:AExit→St→Prop)=>v10i (N:=445) (u:=u) (L:=L) (f:=f) (ms:=ms) (s12:=seg10x12 seg10x14) ho1 g5.2.1 hs hLs (fun s A q fz e1 e2 e3 e4 Q hQ=>v10h e1 e2 e3 e4 ho1.2 (fun o p e5 Q hQ=>v10g ho1.2 e2 e5 hQ) hQ) (Q:=Q)
      have hve:=fun (Q:AExit→St→Prop)=>v10j (N:=445) (f:=f) (ms:=ms) g3 g5.2.2 hm (Q:=Q)
      exact call_of_vc (x:=jr10 (seg10r1 (seg10x0 seg10x2 seg10x4) (seg10r2 seg10x6 (seg10r3 seg10x8 (seg10r4 (seg10x10 (seg10x12 seg10x14)) (seg10r5 seg10x16)))))) (by kernel_rfl) rfl (walk10 ho1 g5 c44_ c42_ c57_ c58_ fun Q hQ=>r10a (ms:=ms) (hva) (r10b hvb (r10c ho1 hKl c48_ hvc (r10d hvd (r10e (u:=u) (L:=L) hve hQ)))))
     ·refine call_of_vc (x:=jr10 (seg10r1 (seg10x0 seg10x2 seg10x4) (seg10r2 seg10x6 (seg10r3 seg10x8 (seg10r4 (seg10x10 (seg10x12 seg10x14)) (seg10r5 seg10x16)))))) (by kernel_rfl) rfl ?_
      rw [g1] at c44_
      rw [g2] at c42_
      rw [g3] at c57_
      rw [g4] at c58_
      refine ca c44_ ?_
      refine sd ?_
      refine sd ?_
      refine b_lt (fun t1=>?_) (fun t1=>?_)
      refine sd ?_
      refine sd ?_
      refine sd ?_
      refine sd ?_
      refine sd ?_
      refine ca (c13) ?_
      exact rfl
      refine sd ?_
      refine b_lt (fun t2=>?_) (fun t2=>?_)
      refine sd ?_
      refine sd ?_
      refine sd ?_
      refine sd ?_
      refine ca (c13) ?_
      exact rfl
      refine ca c42_ ?_
      refine sd ?_
      refine ca c57_ ?_
      refine sd ?_
      refine ca c58_ ?_
      refine sd ?_
      refine sd ?_
      refine b_lt (fun t3=>?_) (fun t3=>?_)
      refine ca (c13) ?_
      exact rfl
      (exfalso; omega)
    ·refine call_of_vc (x:=jr10 (seg10r1 (seg10x0 seg10x2 seg10x4) (seg10r2 seg10x6 (seg10r3 seg10x8 (seg10r4 (seg10x10 (seg10x12 seg10x14)) (seg10r5 seg10x16)))))) (by kernel_rfl) rfl ?_
     rw [g1] at c44_
     rw [g2] at c42_
     rw [g3] at c57_
     refine ca c44_ ?_
     refine sd ?_
     refine sd ?_
     refine b_lt (fun t1=>?_) (fun t1=>?_)
     refine sd ?_
     refine sd ?_
     refine sd ?_
     refine sd ?_
     refine sd ?_
     refine ca (c13) ?_
     exact rfl
     refine sd ?_
     refine b_lt (fun t2=>?_) (fun t2=>?_)
     refine sd ?_
     refine sd ?_
     refine sd ?_
     refine sd ?_
     refine ca (c13) ?_
     exact rfl
     refine ca c42_ ?_
     refine sd ?_
     refine ca c57_ ?_
     refine sd ?_
     refine ca c58_ ?_
     refine sd ?_
     refine b_ne (fun t3=>?_) (fun t3=>?_)
     refine sd ?_
     refine ca (c13) ?_
     exact rfl
     (exfalso; omega)
   ·refine call_of_vc (x:=jr10 (seg10r1 (seg10x0 seg10x2 seg10x4) (seg10r2 seg10x6 (seg10r3 seg10x8 (seg10r4 (seg10x10 (seg10x12 seg10x14)) (seg10r5 seg10x16)))))) (by kernel_rfl) rfl ?_
    rw [g1] at c44_
    rw [g2] at c42_
    refine ca c44_ ?_
    refine sd ?_
    refine sd ?_
    refine b_lt (fun t1=>?_) (fun t1=>?_)
    refine sd ?_
    refine sd ?_
    refine sd ?_
    refine sd ?_
    refine sd ?_
    refine ca (c13) ?_
    exact rfl
    refine sd ?_
    refine b_lt (fun t2=>?_) (fun t2=>?_)
    refine sd ?_
    refine sd ?_
    refine sd ?_
    refine sd ?_
    refine ca (c13) ?_
    exact rfl
    refine ca c42_ ?_
    refine sd ?_
    refine ca c57_ ?_
    refine sd ?_
    refine b_ne (fun t3=>?_) (fun t3=>?_)
    refine sd ?_
    refine sd ?_
    refine ca (c13) ?_
    exact rfl
    (exfalso; omega)
  ·refine call_of_vc (x:=jr10 (seg10r1 (seg10x0 seg10x2 seg10x4) (seg10r2 seg10x6 (seg10r3 seg10x8 (seg10r4 (seg10x10 (seg10x12 seg10x14)) (seg10r5 seg10x16)))))) (by kernel_rfl) rfl ?_
   rw [g1] at c44_
   refine ca c44_ ?_
   refine sd ?_
   refine sd ?_
   refine b_lt (fun t1=>?_) (fun t1=>?_)
   refine sd ?_
   refine sd ?_
   refine sd ?_
   refine sd ?_
   refine sd ?_
   refine ca (c13) ?_
   exact rfl
   refine sd ?_
   refine b_lt (fun t2=>?_) (fun t2=>?_)
   refine sd ?_
   refine sd ?_
   refine sd ?_
   refine sd ?_
   refine ca (c13) ?_
   exact rfl
   refine ca c42_ ?_
   refine sd ?_
   refine b_ne (fun t3=>?_) (fun t3=>?_)
   refine sd ?_
   refine sd ?_
   refine sd ?_
   refine ca (c13) ?_
   exact rfl
   (exfalso; omega)
 ·refine call_of_vc (x:=jr10 (seg10r1 (seg10x0 seg10x2 seg10x4) (seg10r2 seg10x6 (seg10r3 seg10x8 (seg10r4 (seg10x10 (seg10x12 seg10x14)) (seg10r5 seg10x16)))))) (by kernel_rfl) rfl ?_
  refine ca c44_ ?_
  refine sd ?_
  refine b_ne (fun t1=>?_) (fun t1=>?_)
  refine sd ?_
  refine sd ?_
  refine sd ?_
  refine sd ?_
  refine sd ?_
  refine sd ?_
  refine ca (c13) ?_
  exact rfl
  (exfalso; omega)
end Vc
