import Derived.Test.YtkghjijnlnnfkaaGreatDoorG11
set_option linter.unusedSectionVars false
set_option linter.unusedVariables false
set_option linter.unusedSimpArgs false
namespace Vc
open Go
structure Hr where
 d0:Bool
 d1:Bool
 d2:Bool
 d3:Bool
 d4:Bool
 d5:Bool
 d6:Bool
 f:Int
 t:Int
def Hr.day (h:Hr):Nat→Bool
 | 0=>h.d0
 | 1=>h.d1
 | 2=>h.d2
 | 3=>h.d3
 | 4=>h.d4
 | 5=>h.d5
 | 6=>h.d6
 | _=>false
def pr (h:Hr) (t:Int):Bool:=h.day (t / 86400 % 7).toNat&&(decide (h.f≤t % 86400)&&decide (t % 86400 < h.t))
def prL:List Hr→Int→Bool
 | [],_=>false
 | h::r,t=>bif pr h t then true else prL r t
def nx (t:Int):List Hr→Int→Int
 | [],a=>a
 | h::r,a=>nx t r (bif pr h t then max a (t / 86400 * 86400+h.t) else a)
def Hr.ok (h:Hr):Prop:=0≤h.f∧h.f < h.t∧h.t≤86400
theorem pr_iff {h:Hr} {t:Int}:pr h t=true↔h.day (t / 86400 % 7).toNat=true∧h.f≤t % 86400∧t % 86400 < h.t:=by simp [pr]
theorem prL_iff {t:Int}:∀ {l:List Hr},prL l t=true↔∃ h∈l,pr h t=true
 | []=>by simp [prL]
 | h::r=>by
  rw [prL]
  cases e:pr h t with
  | true=>simp [e]
  | false =>
   show prL r t=true↔_
   rw [prL_iff (l:=r)]
   simp [e]
theorem nx_spec (t:Int):∀ (l:List Hr) (a:Int),a≤nx t l a∧(∀ h∈l,pr h t=true→t / 86400 * 86400+h.t≤nx t l a)∧(nx t l a=a∨∃ h∈l,pr h t=true∧nx t l a=t / 86400 * 86400+h.t)
 | [],a=>⟨Int.le_refl _,by simp,.inl rfl⟩
 | h::r,a=>by
  rw [nx]
  cases e:pr h t with
  | false =>
   obtain ⟨h1,h2,h3⟩:=nx_spec t r a
   refine ⟨h1,fun x hx hp=>?_,h3.imp id fun ⟨x,hx,hh⟩=>⟨x,List.mem_cons_of_mem _ hx,hh⟩⟩
   rcases List.mem_cons.1 hx with rfl | hx
   ·rw [e] at hp; cases hp
   ·exact h2 x hx hp
  | true =>
   obtain ⟨h1,h2,h3⟩:=nx_spec t r (max a (t / 86400 * 86400+h.t))
   simp only [cond_true]
   refine ⟨by omega,fun x hx hp=>?_,?_⟩
   ·rcases List.mem_cons.1 hx with rfl | hx
    ·omega
    ·exact h2 x hx hp
   ·rcases h3 with h3 | ⟨x,hx,hh⟩
    ·by_cases ha:t / 86400 * 86400+h.t≤a
     ·left; omega
     ·right; exact ⟨h,List.mem_cons_self,e,by omega⟩
    ·exact .inr ⟨x,List.mem_cons_of_mem _ hx,hh⟩
theorem nx_prot {l:List Hr} {t:Int} (hg:∀ h∈l,h.ok) (ht:0≤t) (hp:prL l t=true):(t < nx t l t∧nx t l t≤t+86400)∧∀ u,t≤u→u < nx t l t→prL l u=true:=by
 obtain ⟨h,hm,hh⟩:=prL_iff.1 hp
 obtain ⟨a1,a2,a3⟩:=nx_spec t l t
 have h1:=a2 h hm hh
 have h2:=(pr_iff.1 hh)
 have hd:t / 86400 * 86400+t % 86400=t:=by omega
 have hlt:t < nx t l t:=by omega
 rcases a3 with a3 | ⟨x,hx,k1,k2⟩
 ·omega
 ·have k:=pr_iff.1 k1
  have hok:=hg x hx
  unfold Hr.ok at hok
  refine ⟨⟨hlt,by omega⟩,fun u h3 h4=>prL_iff.2 ⟨x,hx,pr_iff.2 ⟨?_,by omega,by omega⟩⟩⟩
  rw [show u / 86400=t / 86400 by omega]; exact k.1
theorem pr_week (h:Hr) (t:Int):pr h (t - 604800)=pr h t:=by
 unfold pr
 rw [show (t - 604800) % 86400=t % 86400 by omega,show (t - 604800) / 86400 % 7=t / 86400 % 7 by omega]
theorem prL_week (t:Int):∀ (l:List Hr),prL l (t - 604800)=prL l t
 | []=>rfl
 | h::r=>by rw [prL,prL,pr_week,prL_week t r]
def fr (l:List Hr) (t:Int):Nat→Int
 | 0=>-1
 | n+1=>bif prL l t then fr l (t+1) n else t
theorem fr_skip {l:List Hr}:∀ (k:Nat) {t:Int} {n:Nat},(∀ u,t≤u→u < t+k→prL l u=true)→fr l t (k+n)=fr l (t+k) n
 | 0,t,n,_=>by simp
 | k+1,t,n,h=>by
  rw [show k+1+n=(k+n)+1 by omega,fr,h t (by omega) (by omega)]
  show fr l (t+1) (k+n)=_
  rw [fr_skip k (fun u h1 h2=>h u (by omega) (by omega))]
  congr 1; omega
theorem fr_ge {l:List Hr}:∀ (n:Nat) (t:Int),0≤t→fr l t n=-1∨t≤fr l t n
 | 0,_,_=>.inl rfl
 | n+1,t,h=>by
  rw [fr]
  cases prL l t with
  | false=>exact .inr (Int.le_refl _)
  | true =>
   rcases fr_ge n (t+1) (by omega) with h | h
   ·exact .inl h
   ·exact .inr (by show t≤fr l (t+1) n; omega)
def frA (l:List Hr) (t:Int):Int:=bif decide (fr l t 691200≤100000000) then fr l t 691200 else -1
theorem frA_none {l:List Hr} {t at_:Int} (h0:0≤t) (hp:∀ u,t≤u→u < at_→prL l u=true) (ht:t≤at_) (h:100000000 < at_∨t+691200≤at_):frA l t=-1:=by
 unfold frA
 by_cases h2:t+691200≤at_
 ·have e:fr l t (691200+0)=fr l (t+(691200:Nat)) 0:=fr_skip 691200 (fun u h1 h3=>hp u h1 (by omega))
  rw [show (691200:Nat)=691200+0 from rfl,e]
  rfl
 ·have h1:100000000 < at_:=by omega
  obtain ⟨k,hk⟩:∃ k:Nat,at_=t+k:=⟨(at_ - t).toNat,by omega⟩
  obtain ⟨n,hn⟩:∃ n:Nat,691200=k+n:=⟨691200 - k,by omega⟩
  have e:=fr_skip (l:=l) k (t:=t) (n:=n) (fun u h1 h3=>hp u h1 (by omega))
  rw [← hn] at e
  rw [e]
  rcases fr_ge (l:=l) n (t+k) (by omega) with h | h
  ·rw [h]; rfl
  ·rw [decide_eq_false (by omega)]; rfl
theorem frA_some {l:List Hr} {t at_:Int} (h0:0≤t) (hp:∀ u,t≤u→u < at_→prL l u=true) (ht:t≤at_) (h1:at_≤100000000) (h2:at_≤t+691200) (hf:prL l at_=false):frA l t=at_:=by
 by_cases h3:at_=t+691200
 ·have:=hp (at_ - 604800) (by omega) (by omega)
  rw [prL_week,hf] at this
  cases this
 ·obtain ⟨k,hk⟩:∃ k:Nat,at_=t+k:=⟨(at_ - t).toNat,by omega⟩
  obtain ⟨n,hn⟩:∃ n:Nat,691200=k+(n+1):=⟨691200 - k - 1,by omega⟩
  have e:=fr_skip (l:=l) k (t:=t) (n:=n+1) (fun u h1 h3=>hp u h1 (by omega))
  rw [← hn] at e
  unfold frA
  rw [e,fr,← hk,hf]
  show (bif decide (at_≤100000000) then at_ else -1)=at_
  rw [decide_eq_true h1]; rfl
end Vc
