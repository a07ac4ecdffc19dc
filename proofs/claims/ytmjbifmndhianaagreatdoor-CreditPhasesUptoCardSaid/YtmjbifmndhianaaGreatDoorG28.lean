import Derived.Test.YtmjbifmndhianaaGreatDoorG19
import Derived.Test.YtmjbifmndhianaaGreatDoorG24
set_option linter.unusedSectionVars false
set_option linter.unusedVariables false
set_option linter.unusedSimpArgs false
set_option maxRecDepth 10000
set_option maxHeartbeats 4000000
namespace Vc
open Go Go.Proofs
theorem wi_in {n a b:Int} (h:a≤n) (h2:n≤b):within3 n a b=0:=by
 unfold within3
 rw [decide_eq_false (by omega),decide_eq_false (by omega)]; rfl
theorem crE_0 {a:Ac} {c:Bool} {n m:Int} {q:Ky} (h:crE a c n m q=0):va a c n m q=true∧n∉a.u∧a.u.length≠256∧a.b+(m - pay a m)≤1000000000000:=by
 unfold crE at h
 have hlen:(ints a.u).length=a.u.length:=List.length_map _
 cases hv:va a c n m q with
 | false=>rw [hv] at h; cases h
 | true =>
  rw [hv] at h
  have h:crR a n m=0:=h
  refine ⟨rfl,fun hm=>?_,fun he=>?_,?_⟩
  ·have h2:=firstOf_zero h (bif a.u.contains n then 9 else 0) (by simp)
   rw [List.contains_iff_mem.2 hm] at h2; cases h2
  ·have h2:=firstOf_zero h (bif ((((ints a.u).length:Nat):Int)==256) then 5 else 0) (by simp)
   rw [hlen,he] at h2; cases h2
  ·have h2:=firstOf_zero h (bif decide (1000000000000 - (m - pay a m) < a.b) then 4 else 0) (by simp)
   by_cases e:1000000000000 - (m - pay a m) < a.b
   ·rw [decide_eq_true e] at h2; cases h2
   ·omega
theorem crO_ok {a:Ac} {c:Bool} {n m:Int} {q:Ky} (hA:ckA a c=0) (ht:ckT n m=0) (h:crE a c n m q=0):ckA (crO a n m) c=0:=by
 obtain ⟨ht1,ht2⟩:=ckT_b ht
 obtain ⟨_,hnu,h256,hb2⟩:=crE_0 h
 have hl:=ckA_len hA
 have hb:=(ckA_b hA).1
 obtain ⟨hd,hs0,hs1⟩:=ckA_ds hA
 obtain ⟨_,hp0,hp1,hp2,_⟩:=pay_b hA ht2.1 ht2.2
 obtain ⟨hasc,hrg⟩:=ckA_asc hA
 have hF:=ckA_F hA
 have hlen:(ints (insI n a.u)).length=a.u.length+1:=by unfold ints; rw [List.length_map,insI_len]
 have hF2:ckF (crO a n m) c=0:=by
  have e3:=firstOf_zero hF (within3 a.s 0 100) (by simp)
  have e4:=firstOf_zero hF (within3 a.e 0 100000000) (by simp)
  have e5:=firstOf_zero hF (bif (bif c then false else !(kz a.n)) then 1 else 0) (by simp)
  show firstOf [within3 (a.b+(m - pay a m)) (-1000000000000) 1000000000000,within3 (a.d - pay a m) 0 1000000000000,within3 a.s 0 100,within3 a.e 0 100000000,bif (bif c then false else !(kz a.n)) then 1 else 0,bif decide ((256:Int) < (((ints (insI n a.u)).length:Nat):Int)) then 5 else 0]=0
  rw [e3,e4,e5,wi_in (by omega) hb2,wi_in (by omega) (by omega),hlen,decide_eq_false (by omega)]; rfl
 rw [ckA_0 hF2]
 show ckU (insI n a.u) 0=0
 refine (ckU_asc (Int.le_refl 0)).2 ⟨insI_asc n hasc hnu,fun x hx=>?_⟩
 rcases (insI_mem n a.u x).1 hx with e | e
 ·omega
 ·exact hrg x e
structure P29 where
 k:Nat
 X:Ac
 L:List (Tk × Int)
structure P34 where
 k:Nat
 X:Ac
 L:List Int
theorem f1 {x:Int}:firstOf [0,x]=x:=by
 rw [fo_z]
 show (bif x != 0 then x else 0)=_
 by_cases e:x=0
 ·rw [e]; rfl
 ·rw [bne_t e]; rfl
end Vc
