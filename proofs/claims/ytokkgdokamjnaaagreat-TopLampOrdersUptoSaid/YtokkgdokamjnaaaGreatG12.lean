import Derived.Test.YtokkgdokamjnaaaGreatG00
import Derived.Test.YtokkgdokamjnaaaGreatG09
import Derived.Test.YtokkgdokamjnaaaGreatG07
import Derived.Test.YtokkgdokamjnaaaGreatG04
import Derived.Test.YtokkgdokamjnaaaGreatG05
set_option linter.unusedSectionVars false
set_option linter.unusedVariables false
set_option linter.unusedSimpArgs false
set_option maxRecDepth 10000
namespace Vc
structure Lk where
 a:Int
 b:Int
 c:Int
def lev (x:Int):Int:=if x < 0 then 1000000 else x
def at0 (d:List Int) (i:Nat):Int:=(d[i]?).getD (-1)
def bett (d:List Int) (x y:Nat) (c:Int):Bool:=decide (0≤at0 d x)&&(decide (at0 d y < 0)||decide (at0 d x+c < at0 d y))
def relax (d:List Int) (x y:Nat) (c:Int):List Int:=bif bett d x y c then d.set y (at0 d x+c) else d
def relax2 (d:List Int) (l:Lk):List Int:=relax (relax d l.a.toNat l.b.toNat l.c) l.b.toNat l.a.toNat l.c
def pass (ls:List Lk) (d:List Int):List Int:=ls.foldl relax2 d
def Lk.okIn (n:Nat) (l:Lk):Prop:=(0≤l.a∧l.a < n)∧(0≤l.b∧l.b < n)∧(1≤l.c∧l.c≤100)
theorem relax_len (d:List Int) (x y:Nat) (c:Int):(relax d x y c).length=d.length:=by
 unfold relax; cases bett d x y c
 ·rfl
 ·exact List.length_set ..
theorem at0_set {d:List Int} {y:Nat} (h:y < d.length) (v:Int) (i:Nat):at0 (d.set y v) i=if i=y then v else at0 d i:=by
 unfold at0
 by_cases e:i=y
 ·subst e; rw [List.getElem?_set_self h,if_pos rfl]; rfl
 ·rw [List.getElem?_set_ne (Ne.symm e),if_neg e]
theorem at0_relax {d:List Int} {x y:Nat} {c:Int} (h:y < d.length) (i:Nat):at0 (relax d x y c) i=if i=y∧bett d x y c=true then at0 d x+c else at0 d i:=by
 unfold relax
 cases hb:bett d x y c
 ·rw [if_neg (by simp)]; rfl
 ·show at0 (d.set y _) i=_
  rw [at0_set h]
  by_cases e:i=y
  ·rw [if_pos e,if_pos ⟨e,rfl⟩]
  ·rw [if_neg e,if_neg (fun h=>e h.1)]
theorem bett_iff {d:List Int} {x y:Nat} {c:Int}:bett d x y c=true↔0≤at0 d x∧(at0 d y < 0∨at0 d x+c < at0 d y):=by
 unfold bett
 rw [Bool.and_eq_true,Bool.or_eq_true,decide_eq_true_eq,decide_eq_true_eq,decide_eq_true_eq]
def low (B:Int) (d:List Int):Prop:=∀ i,at0 d i≤B
theorem lev_relax {d:List Int} {x y:Nat} {c:Int} (h:y < d.length) {B:Int} (hB:B≤900000) (hl:low B d) (hc:1≤c∧c≤100) (i:Nat):lev (at0 (relax d x y c) i)≤lev (at0 d i):=by
 rw [at0_relax h]
 split
 ·rename_i he
  obtain ⟨rfl,hb⟩:=he
  obtain ⟨h1,h2⟩:=bett_iff.1 hb
  have:=hl x
  unfold lev
  split <;> split <;> omega
 ·exact Int.le_refl _
def calm (ls:List Lk) (d:List Int):Prop:=∀ l∈ls,bett d l.a.toNat l.b.toNat l.c=false∧bett d l.b.toNat l.a.toNat l.c=false
def known (d:List Int):Nat:=(d.filter fun x=>decide (0≤x)).length
theorem known_le (d:List Int):known d≤d.length:=List.length_filter_le _ _
theorem known_set:∀ (d:List Int) (y:Nat) (v:Int),y < d.length→0≤v→known d≤known (d.set y v)∧(at0 d y < 0→known (d.set y v)=known d+1)
 | x::r,0,v,_,hv=>by
  show ((x::r).filter _).length≤((v::r).filter _).length∧(x < 0→((v::r).filter _).length=((x::r).filter _).length+1)
  rw [List.filter_cons,List.filter_cons,decide_eq_true hv]
  by_cases hx:0≤x
  ·rw [decide_eq_true hx]; exact ⟨Nat.le_refl _,fun h=>by omega⟩
  ·rw [decide_eq_false hx]; exact ⟨by simp,fun _=>by simp⟩
 | x::r,y+1,v,h,hv=>by
  have ih:=known_set r y v (by simpa using h) hv
  show ((x::r).filter _).length≤((x::r.set y v).filter _).length∧(at0 r y < 0→((x::r.set y v).filter _).length=((x::r).filter _).length+1)
  rw [List.filter_cons,List.filter_cons]
  unfold known at ih
  cases decide (0≤x)
  ·exact ih
  ·simp only [if_true,List.length_cons]
   exact ⟨by omega,fun h=>by have:=ih.2 h; omega⟩
def fair (d:List Int):Prop:=low (100 * ((known d:Int) - 1)) d∧1≤known d
theorem fair_relax {d:List Int} {x y:Nat} {c:Int} (hy:y < d.length) (hc:1≤c∧c≤100) (h:fair d):fair (relax d x y c):=by
 obtain ⟨h1,h2⟩:=h
 unfold relax
 cases hb:bett d x y c
 ·exact ⟨h1,h2⟩
 ·obtain ⟨h3,h4⟩:=bett_iff.1 hb
  have hk:=known_set d y (at0 d x+c) hy (by omega)
  have hx:=h1 x
  show fair (d.set y (at0 d x+c))
  refine ⟨fun i=>?_,by omega⟩
  rw [at0_set hy]
  have hi:=h1 i
  have hyy:=h1 y
  split
  ·rcases h4 with h4 | h4
   ·have:=hk.2 h4; omega
   ·omega
  ·omega
theorem fair_low {d:List Int} (h:fair d) (hn:d.length≤32):low 3200 d:=fun i=>by
 have:=h.1 i
 have:=known_le d
 omega
end Vc
set_option maxRecDepth 10000
namespace Vc
structure DOk (n f:Nat) (d:List Int):Prop where
 len:d.length=n
 n32:n≤32
 fn:f < n
 fair:fair d
 zero:at0 d f=0
 neg:∀ i,at0 d i < 0→at0 d i=-1
theorem DOk.low {n f:Nat} {d:List Int} (h:DOk n f d):low 3200 d:=fair_low h.fair (by rw [h.len]; exact h.n32)
theorem DOk.relax {n f:Nat} {d:List Int} (h:DOk n f d) {x y:Nat} {c:Int} (hy:y < n) (hc:1≤c∧c≤100):DOk n f (relax d x y c):=by
 have hyl:y < d.length:=by rw [h.len]; exact hy
 refine ⟨by rw [relax_len]; exact h.len,h.n32,h.fn,fair_relax hyl hc h.fair,?_,fun i hi=>?_⟩
 ·rw [at0_relax hyl]
  split
  ·rename_i e
   obtain ⟨rfl,e⟩:=e
   obtain ⟨h1,h2⟩:=bett_iff.1 e
   have:=h.zero
   omega
  ·exact h.zero
 ·rw [at0_relax hyl] at hi ⊢
  split at hi
  ·rename_i e
   obtain ⟨h1,h2⟩:=bett_iff.1 e.2
   omega
  ·rename_i e
   rw [if_neg e]; exact h.neg i hi
theorem Lk.okIn.na {n:Nat} {l:Lk} (h:l.okIn n):l.a.toNat < n:=by obtain ⟨⟨h1,h2⟩,_⟩:=h; omega
theorem Lk.okIn.nb {n:Nat} {l:Lk} (h:l.okIn n):l.b.toNat < n:=by obtain ⟨_,⟨h1,h2⟩,_⟩:=h; omega
theorem DOk.relax2 {n f:Nat} {d:List Int} (h:DOk n f d) {l:Lk} (hl:l.okIn n):DOk n f (relax2 d l):=(h.relax hl.nb hl.2.2).relax hl.na hl.2.2
theorem DOk.pass {n f:Nat}:∀ {ls:List Lk} {d:List Int},DOk n f d→(∀ l∈ls,l.okIn n)→DOk n f (pass ls d)
 | [],_,h,_=>h
 | l::r,d,h,hl=>DOk.pass (ls:=r) (h.relax2 (hl l List.mem_cons_self)) fun k hk=>hl k (List.mem_cons_of_mem _ hk)
def dir (ls:List Lk) (x y:Nat) (c:Int):Prop:=∃ l∈ls,l.c=c∧((l.a.toNat=x∧l.b.toNat=y)∨(l.b.toNat=x∧l.a.toNat=y))
def tight (ls:List Lk) (f:Nat) (d:List Int):Prop:=∀ i,i≠f→0≤at0 d i→∃ x c,dir ls x i c∧0≤at0 d x∧at0 d x+c≤at0 d i
def Ge (D d:List Int):Prop:=∀ i,lev (at0 D i)≤lev (at0 d i)
theorem ge_relax {n f:Nat} {D d:List Int} (h:DOk n f d) (hD:DOk n f D) (hg:Ge D d) {x y:Nat} {c:Int} (hy:y < n) (hc:1≤c∧c≤100) (hb:bett D x y c=false):Ge D (relax d x y c):=by
 have hyl:y < d.length:=by rw [h.len]; exact hy
 intro i
 rw [at0_relax hyl]
 split
 ·rename_i e
  obtain ⟨rfl,e⟩:=e
  obtain ⟨h1,h2⟩:=bett_iff.1 e
  have hx:=hg x
  have hdx:=h.low x
  have hDx:=hD.low x
  have hDi:=hD.low i
  have h3:¬ (0≤at0 D x∧(at0 D i < 0∨at0 D x+c < at0 D i)):=fun h=>by rw [← bett_iff,hb] at h; cases h
  unfold lev at hx ⊢
  split at hx <;> split <;> split at hx <;> omega
 ·exact hg i
theorem ge_relax2 {n f:Nat} {D d:List Int} (h:DOk n f d) (hD:DOk n f D) (hg:Ge D d) {l:Lk} (hl:l.okIn n) (hb:bett D l.a.toNat l.b.toNat l.c=false∧bett D l.b.toNat l.a.toNat l.c=false):Ge D (relax2 d l) :=
 ge_relax (h.relax hl.nb hl.2.2) hD (ge_relax h hD hg hl.nb hl.2.2 hb.1) hl.na hl.2.2 hb.2
theorem ge_pass {n f:Nat} {D:List Int} (hD:DOk n f D):∀ {ls:List Lk} {d:List Int},DOk n f d→(∀ l∈ls,l.okIn n)→calm ls D→Ge D d→Ge D (pass ls d)
 | [],_,_,_,_,h=>h
 | l::r,d,h,hl,hc,hg=>ge_pass hD (ls:=r) (h.relax2 (hl l List.mem_cons_self)) (fun k hk=>hl k (List.mem_cons_of_mem _ hk)) (fun k hk=>hc k (List.mem_cons_of_mem _ hk)) (ge_relax2 h hD hg (hl l List.mem_cons_self) (hc l List.mem_cons_self))
theorem le_relax2 {n f:Nat} {d:List Int} (h:DOk n f d) {l:Lk} (hl:l.okIn n) (i:Nat):lev (at0 (relax2 d l) i)≤lev (at0 d i):=by
 have h1:=h.relax (x:=l.a.toNat) hl.nb hl.2.2
 have a:=lev_relax (x:=l.a.toNat) (y:=l.b.toNat) (c:=l.c) (by rw [h.len]; exact hl.nb) (B:=3200) (by decide) h.low hl.2.2 i
 have b:=lev_relax (x:=l.b.toNat) (y:=l.a.toNat) (c:=l.c) (by rw [h1.len]; exact hl.na) (B:=3200) (by decide) h1.low hl.2.2 i
 exact Int.le_trans b a
theorem le_pass {n f:Nat}:∀ {ls:List Lk} {d:List Int},DOk n f d→(∀ l∈ls,l.okIn n)→∀ i,lev (at0 (pass ls d) i)≤lev (at0 d i)
 | [],_,_,_,_=>Int.le_refl _
 | l::r,d,h,hl,i=>Int.le_trans (le_pass (ls:=r) (h.relax2 (hl l List.mem_cons_self)) (fun k hk=>hl k (List.mem_cons_of_mem _ hk)) i) (le_relax2 h (hl l List.mem_cons_self) i)
theorem relax_settle {n f:Nat} {d:List Int} (h:DOk n f d) {x y:Nat} {c:Int} (hy:y < n) (hc:1≤c∧c≤100) (hx:0≤at0 d x):lev (at0 (relax d x y c) y)≤at0 d x+c:=by
 have hyl:y < d.length:=by rw [h.len]; exact hy
 have hlx:=h.low x
 rw [at0_relax hyl]
 split
 ·unfold lev; split <;> omega
 ·rename_i e
  have e:¬ (0≤at0 d x∧(at0 d y < 0∨at0 d x+c < at0 d y)):=fun h=>e ⟨rfl,bett_iff.2 h⟩
  unfold lev; split <;> omega
theorem lev_same {D d:List Int} {x:Nat} (h1:lev (at0 D x)≤lev (at0 d x)) (h2:lev (at0 d x)≤at0 D x) (h0:0≤at0 D x) (hb:at0 D x≤3200):at0 d x=at0 D x:=by
 unfold lev at h1 h2
 split at h1 <;> split at h2 <;> omega
theorem pass_settle {n f:Nat} {D:List Int} (hD:DOk n f D) {x y:Nat} {c:Int}:∀ {ls:List Lk} {d:List Int},DOk n f d→(∀ l∈ls,l.okIn n)→calm ls D→Ge D d→dir ls x y c→0≤at0 D x→lev (at0 d x)≤at0 D x→lev (at0 (pass ls d) y)≤at0 D x+c
 | [],_,_,_,_,_,hd,_,_=>by obtain ⟨l,h,_⟩:=hd; exact absurd h List.not_mem_nil
 | l::r,d,h,hl,hc,hg,hd,h0,hx=>by
  have hl0:=hl l List.mem_cons_self
  have hlr:∀ k∈r,k.okIn n:=fun k hk=>hl k (List.mem_cons_of_mem _ hk)
  have hcr:calm r D:=fun k hk=>hc k (List.mem_cons_of_mem _ hk)
  have h2:=h.relax2 hl0
  have hg2:=ge_relax2 h hD hg hl0 (hc l List.mem_cons_self)
  have hx2:lev (at0 (relax2 d l) x)≤at0 D x:=Int.le_trans (le_relax2 h hl0 x) hx
  obtain ⟨k,hk,hkc,he⟩:=hd
  rcases List.mem_cons.1 hk with rfl | hk
  ·refine Int.le_trans (le_pass (ls:=r) h2 hlr y) ?_
   have e1:=lev_same (hg x) hx h0 (hD.low x)
   have h1:=h.relax (x:=k.a.toNat) hl0.nb hl0.2.2
   rcases he with ⟨rfl,rfl⟩ | ⟨rfl,rfl⟩
   ·have s:=relax_settle h (x:=k.a.toNat) (y:=k.b.toNat) (c:=k.c) hl0.nb hl0.2.2 (by omega)
    have t:=lev_relax (x:=k.b.toNat) (y:=k.a.toNat) (c:=k.c) (d:=relax d k.a.toNat k.b.toNat k.c) (by rw [h1.len]; exact hl0.na) (B:=3200) (by decide) h1.low hl0.2.2 k.b.toNat
    rw [← e1,← hkc]
    exact Int.le_trans t s
   ·have g1:=ge_relax h hD hg hl0.nb hl0.2.2 (hc k List.mem_cons_self).1
    have l1:=lev_relax (x:=k.a.toNat) (y:=k.b.toNat) (c:=k.c) (by rw [h.len]; exact hl0.nb) (B:=3200) (by decide) h.low hl0.2.2 k.b.toNat
    have e2:=lev_same (g1 k.b.toNat) (Int.le_trans l1 hx) h0 (hD.low k.b.toNat)
    have s:=relax_settle h1 (x:=k.b.toNat) (y:=k.a.toNat) (c:=k.c) hl0.na hl0.2.2 (by omega)
    rw [← e2,← hkc]
    exact s
  ·exact pass_settle hD (ls:=r) h2 hlr hcr hg2 ⟨k,hk,hkc,he⟩ h0 hx2
end Vc
set_option maxRecDepth 10000
namespace Vc
def cnt:Nat→(Nat→Bool)→Nat
 | 0,_=>0
 | n+1,p=>cnt n p+(bif p n then 1 else 0)
theorem cnt_le:∀ {n:Nat} {p q:Nat→Bool},(∀ i,i < n→p i=true→q i=true)→cnt n p≤cnt n q
 | 0,_,_,_=>Nat.le_refl _
 | n+1,p,q,h=>by
  have ih:=cnt_le (n:=n) (p:=p) (q:=q) fun i hi=>h i (by omega)
  have hn:=h n (by omega)
  show cnt n p+(bif p n then 1 else 0)≤cnt n q+(bif q n then 1 else 0)
  cases hp:p n
  ·show cnt n p+0≤_; omega
  ·rw [hn hp]; show cnt n p+1≤cnt n q+1; omega
theorem cnt_lt:∀ {n:Nat} {p q:Nat→Bool} {j:Nat},(∀ i,i < n→p i=true→q i=true)→j < n→p j=false→q j=true→cnt n p < cnt n q
 | 0,_,_,_,_,h,_,_=>by omega
 | n+1,p,q,j,h,hj,h1,h2=>by
  have hn:=h n (by omega)
  show cnt n p+(bif p n then 1 else 0) < cnt n q+(bif q n then 1 else 0)
  by_cases e:j=n
  ·subst e
   have ih:=cnt_le (n:=j) (p:=p) (q:=q) fun i hi=>h i (by omega)
   rw [h1,h2]; show cnt j p+0 < cnt j q+1; omega
  ·have ih:=cnt_lt (n:=n) (p:=p) (q:=q) (fun i hi=>h i (by omega)) (by omega) h1 h2
   cases hp:p n
   ·show cnt n p+0 < _; omega
   ·rw [hn hp]; show cnt n p+1 < cnt n q+1; omega
theorem cnt_all:∀ n:Nat,cnt n (fun _=>true)=n
 | 0=>rfl
 | n+1=>by show cnt n (fun _=>true)+1=n+1; rw [cnt_all n]
def near (D:List Int) (v:Nat):Nat→Bool:=fun u=>decide (0≤at0 D u)&&decide (at0 D u < at0 D v)
def rankD (n:Nat) (D:List Int) (v:Nat):Nat:=cnt n (near D v)
theorem near_self (D:List Int) (v:Nat):near D v v=false:=by unfold near; rw [decide_eq_false (p:=at0 D v < at0 D v) (by omega)]; simp
theorem near_of {D:List Int} {u v:Nat} (h:0≤at0 D u) (h2:at0 D u < at0 D v):near D v u=true:=by unfold near; rw [decide_eq_true h,decide_eq_true h2]; rfl
theorem rank_lt {n:Nat} {D:List Int} {u v:Nat} (hu:u < n) (h:0≤at0 D u) (h2:at0 D u < at0 D v):rankD n D u < rankD n D v :=
 cnt_lt (fun i _ hi=>by
  unfold near at hi
  rw [Bool.and_eq_true,decide_eq_true_eq,decide_eq_true_eq] at hi
  exact near_of hi.1 (by omega)) hu (near_self D u) (near_of h h2)
theorem rank_top {n:Nat} {D:List Int} {v:Nat} (hv:v < n):rankD n D v≤n - 1:=by
 have h:=cnt_lt (p:=near D v) (q:=fun _=>true) (fun _ _ _=>rfl) hv (near_self D v) rfl
 rw [cnt_all] at h
 unfold rankD; omega
def passes (ls:List Lk):Nat→List Int→List Int
 | 0,d=>d
 | k+1,d=>pass ls (passes ls k d)
def start (n f:Nat):List Int:=(List.replicate n (-1)).set f 0
theorem at0_start {n f:Nat} (hf:f < n) (i:Nat):at0 (start n f) i=if i=f then 0 else -1:=by
 unfold start
 rw [at0_set (by rw [List.length_replicate]; exact hf)]
 split
 ·rfl
 ·unfold at0
  rcases Nat.lt_or_ge i n with h | h
  ·rw [List.getElem?_replicate,if_pos h]; rfl
  ·rw [List.getElem?_replicate,if_neg (by omega)]; rfl
theorem known_rep:∀ n:Nat,known (List.replicate n (-1))=0
 | 0=>rfl
 | n+1=>by
  show ((List.replicate (n+1) (-1:Int)).filter _).length=0
  rw [List.replicate_succ,List.filter_cons,decide_eq_false (by decide)]
  exact known_rep n
theorem start_ok {n f:Nat} (hn:n≤32) (hf:f < n):DOk n f (start n f):=by
 have hk:known (start n f)=1:=by
  have h:=known_set (List.replicate n (-1)) f 0 (by rw [List.length_replicate]; exact hf) (by decide)
  have e:at0 (List.replicate n (-1)) f < 0:=by
   unfold at0; rw [List.getElem?_replicate,if_pos hf]; decide
  have:=h.2 e
  rw [known_rep] at this
  exact this
 refine ⟨by unfold start; rw [List.length_set,List.length_replicate],hn,hf,⟨fun i=>?_,by omega⟩,?_,fun i hi=>?_⟩
 ·rw [at0_start hf,hk]; split <;> decide
 ·rw [at0_start hf,if_pos rfl]
 ·rw [at0_start hf] at hi ⊢
  split at hi
  ·omega
  ·rename_i e; rw [if_neg e]
section
variable {n f : Nat} {ls : List Lk} (hn : n ≤ 32) (hf : f < n) (hl : ∀ l ∈ ls, l.okIn n)
include hn hf hl
theorem passes_ok:∀ k:Nat,DOk n f (passes ls k (start n f))
 | 0=>start_ok hn hf
 | k+1=>(passes_ok k).pass hl
theorem passes_ge {D:List Int} (hD:DOk n f D) (hc:calm ls D) (hg:Ge D (start n f)):∀ k:Nat,Ge D (passes ls k (start n f))
 | 0=>hg
 | k+1=>ge_pass hD (passes_ok hn hf hl k) hl hc (passes_ge hD hc hg k)
theorem settled {D:List Int} (hD:DOk n f D) (hc:calm ls D) (ht:tight ls f D) (hg:Ge D (start n f)):∀ (k v:Nat),v < n→0≤at0 D v→rankD n D v≤k→at0 (passes ls k (start n f)) v=at0 D v:=by
 intro k
 induction k with
 | zero =>
  intro v hv h0 hr
  by_cases e:v=f
  ·subst e; rw [(passes_ok hn hf hl 0).zero,hD.zero]
  ·exfalso
   obtain ⟨x,c,⟨l,h1,h2,h3⟩,h4,h5⟩:=ht v e h0
   have hlo:=hl l h1
   have hc1:=hlo.2.2.1
   have hx:x < n:=by
    rcases h3 with ⟨rfl,_⟩ | ⟨rfl,_⟩
    ·exact hlo.na
    ·exact hlo.nb
   have:=rank_lt (D:=D) (v:=v) hx h4 (by omega)
   omega
 | succ k ih =>
  intro v hv h0 hr
  by_cases e:v=f
  ·subst e; rw [(passes_ok hn hf hl (k+1)).zero,hD.zero]
  ·obtain ⟨x,c,hd,h4,h5⟩:=ht v e h0
   obtain ⟨l,h1,h2,h3⟩:=hd
   have hlo:=hl l h1
   have hc1:=hlo.2.2.1
   have hx:x < n:=by
    rcases h3 with ⟨rfl,_⟩ | ⟨rfl,_⟩
    ·exact hlo.na
    ·exact hlo.nb
   have hrk:=rank_lt (D:=D) (v:=v) hx h4 (by omega)
   have ex:=ih x hx h4 (by omega)
   have hok:=passes_ok hn hf hl k
   have hge:=passes_ge hn hf hl hD hc hg k
   have hlow:=hD.low x
   have s:=pass_settle hD hok hl hc hge ⟨l,h1,h2,h3⟩ h4 (by rw [ex]; unfold lev; split <;> omega)
   have g:=ge_pass hD hok hl hc hge v
   exact lev_same g (Int.le_trans s h5) h0 (hD.low v)
theorem settled_all {D:List Int} (hD:DOk n f D) (hc:calm ls D) (ht:tight ls f D) (hg:Ge D (start n f)):passes ls (n - 1) (start n f)=D:=by
 have hok:=passes_ok hn hf hl (n - 1)
 have key:∀ v,v < n→at0 (passes ls (n - 1) (start n f)) v=at0 D v:=fun v hv=>by
  rcases Int.lt_or_le (at0 D v) 0 with h | h
  ·have h1:=hD.neg v h
   have h2:=passes_ge hn hf hl hD hc hg (n - 1) v
   have h3:=hok.low v
   have h4:at0 (passes ls (n - 1) (start n f)) v < 0:=by
    unfold lev at h2; split at h2 <;> split at h2 <;> omega
   rw [hok.neg v h4,h1]
  ·exact settled hn hf hl hD hc ht hg (n - 1) v hv h (rank_top hv)
 apply List.ext_getElem?
 intro i
 rcases Nat.lt_or_ge i n with h | h
 ·have k:=key i h
  unfold at0 at k
  rw [List.getElem?_eq_getElem (by rw [hok.len]; exact h),List.getElem?_eq_getElem (by rw [hD.len]; exact h)] at k ⊢
  exact congrArg some k
 ·rw [List.getElem?_eq_none (by rw [hok.len]; exact h),List.getElem?_eq_none (by rw [hD.len]; exact h)]
end
end Vc
set_option maxRecDepth 10000
namespace Vc
open Go Go.Proofs
def Lk.d (l:Lk):Data:=.agg [.int .i64 l.a,.int .i64 l.b,.int .i64 l.c]
def lks (l:List Lk):List Data:=l.map Lk.d
theorem lks_len (l:List Lk):(lks l).length=l.length:=List.length_map _
theorem strs_len (l:List (List UInt8)):(strs l).length=l.length:=List.length_map _
theorem ints_len (l:List Int):(ints l).length=l.length:=List.length_map _
structure Ms where
 ns:List (List UInt8)
 ls:List Lk
def Ms.d (m:Ms):Data:=.agg [.slice 1 (strs m.ns),.slice 3 (lks m.ls)]
def outN (n i:Int):Bool:=decide (i < 0)||decide (n≤i)
def Ms.has (m:Ms) (i:Int):Bool:=decide (0≤i)&&decide (i < (m.ns.length:Int))
def Ms.nodeE (m:Ms) (i:Int):Int:=bif outN m.ns.length i then 10 else 0
theorem has_out (m:Ms) (i:Int):(!(m.has i))=outN m.ns.length i:=by
 unfold Ms.has outN
 by_cases h:i < 0
 ·rw [decide_eq_true h,decide_eq_false (by omega)]; rfl
 ·rw [decide_eq_false h,decide_eq_true (by omega)]
  by_cases h2:i < (m.ns.length:Int)
  ·rw [decide_eq_true h2,decide_eq_false (by omega)]; rfl
  ·rw [decide_eq_false h2,decide_eq_true (by omega)]; rfl
def hit (l:Lk) (a b:Int):Bool:=l.a==min a b&&(l.b==max a b&&true)
def betw:List Lk→Int→Int→Int
 | [],_,_=>0
 | l::r,a,b=>bif hit l a b then l.c else betw r a b
def asc (ls:List Lk):Prop:=∀ l∈ls,l.a < l.b
def nbs (m:Ms) (i:Int):Nat→List Int
 | 0=>[]
 | k+1=>nbs m i k++(bif decide (0 < betw m.ls i k) then [(k:Int)] else [])
def Ms.nbs (m:Ms) (i:Int):List Int:=Vc.nbs m i m.ns.length
theorem nbs_len (m:Ms) (i:Int):∀ k,(Vc.nbs m i k).length≤k
 | 0=>Nat.le_refl _
 | k+1=>by
  have:=nbs_len m i k
  rw [Vc.nbs,List.length_append]
  cases decide (0 < betw m.ls i k)
  ·show _+0≤_; omega
  ·show _+1≤_; omega
theorem betw_at {ls:List Lk} {k:Nat} {l:Lk} (h:ls[k]?=some l) (a b:Int):betw (ls.drop k) a b=bif hit l a b then l.c else betw (ls.drop (k+1)) a b:=by
 rw [drop_at h,betw]
theorem lks_at {ls:List Lk} {k:Nat} {l:Lk} (h:ls[k]?=some l):(lks ls)[(k:Int).toNat]?=some l.d:=by simp [lks,h]
theorem strs_at {ls:List (List UInt8)} {k:Nat} {l:List UInt8} (h:ls[k]?=some l):(strs ls)[(k:Int).toNat]?=some (.str l):=by simp [strs,h]
theorem get_lt {α:Type} (l:List α) {k:Nat} (h:k < l.length):∃ x,l[k]?=some x:=⟨_,List.getElem?_eq_getElem h⟩
def ir95:AFun:=⟨14,1,[.tmp 4],
 (.seq
 (.reg [0] [⟨some 2,.cbx 0 2 (.tmp 0),none⟩,
 ⟨some 4,.mov (.cst (.d (.bool false))),none⟩])
 (.seq
 (.reg [] [⟨some 5,.mov (.tmp 1),none⟩,
 ⟨some 6,.cmp .geq (.tmp 5) (.cst (.d (.int .i64 0))),none⟩,
 ⟨some 7,.mov (.tmp 6),none⟩,
 ⟨some 8,.mov (.tmp 1),some (7,true)⟩,
 ⟨some 9,.fad 0 (.tmp 2),some (7,true)⟩,
 ⟨some 10,.ld false 1 (.tmp 9),some (7,true)⟩,
 ⟨some 11,.len (.tmp 10),some (7,true)⟩,
 ⟨some 12,.cmp .lss (.tmp 8) (.tmp 11),some (7,true)⟩,
 ⟨some 13,.pick (.tmp 7) (.tmp 12) (.cst (.d (.bool false))),none⟩,
 ⟨some 4,.mov (.tmp 13),none⟩])
 .ret))⟩
def ir23:AFun:=⟨10,1,[.tmp 4],
 (.seq
 (.reg [0] [⟨some 2,.cbx 0 2 (.tmp 0),none⟩,
 ⟨some 4,.mov (.cst (.d (.int .i64 0))),none⟩])
 (.seq
 (.reg [] [⟨some 5,.ld true 2 (.tmp 2),none⟩,
 ⟨some 6,.mov (.tmp 1),none⟩,
 ⟨some 7,.call 102 [(.tmp 5),(.tmp 6)],none⟩,
 ⟨some 8,.not (.tmp 7),none⟩,
 ⟨some 9,.call 50 [(.tmp 8),(.cst (.d (.int .i64 10)))],none⟩,
 ⟨some 4,.mov (.tmp 9),none⟩])
 .ret))⟩
def ir87:AFun:=⟨15,1,[.tmp 4],
 (.seq
 (.reg [0] [⟨some 2,.cbx 0 2 (.tmp 0),none⟩,
 ⟨some 4,.mov (.cst (.d (.int .i64 0))),none⟩])
 (.seq
 (.reg [] [⟨some 5,.mov (.tmp 1),none⟩,
 ⟨some 6,.cmp .lss (.tmp 5) (.cst (.d (.int .i64 0))),none⟩,
 ⟨some 7,.mov (.tmp 6),none⟩,
 ⟨some 8,.mov (.tmp 1),some (7,false)⟩,
 ⟨some 9,.fad 0 (.tmp 2),some (7,false)⟩,
 ⟨some 10,.ld false 1 (.tmp 9),some (7,false)⟩,
 ⟨some 11,.len (.tmp 10),some (7,false)⟩,
 ⟨some 12,.cmp .geq (.tmp 8) (.tmp 11),some (7,false)⟩,
 ⟨some 13,.pick (.tmp 7) (.cst (.d (.bool true))) (.tmp 12),none⟩,
 ⟨some 14,.call 65 [(.tmp 13),(.cst (.d (.int .i64 10)))],none⟩,
 ⟨some 4,.mov (.tmp 14),none⟩])
 .ret))⟩
def ir123:AFun:=⟨8,2,[.cell 2 2 true],
 (.seq
 (.reg [0,1] [⟨some 1,.cbx 0 3 (.tmp 0),none⟩,
 ⟨some 2,.alloc 1 [(.d (.int .i64 0)),(.d (.int .i64 0))],none⟩])
 (.seq
 (.reg [] [⟨some 3,.fad 0 (.tmp 1),none⟩,
 ⟨some 4,.ld false 1 (.tmp 3),none⟩,
 ⟨some 5,.fad 1 (.tmp 1),none⟩,
 ⟨some 6,.ld false 1 (.tmp 5),none⟩,
 ⟨some 7,.build [(.d (.int .i64 0)),(.d (.int .i64 0))] [(0,1,(.tmp 4)),(1,1,(.tmp 6))],none⟩,
 ⟨none,.st 2 (.tmp 2) (.tmp 7),none⟩])
 .ret))⟩
def ir91:AFun:=⟨31,2,[.tmp 6],
 (.seq
 (.reg [0] [⟨some 3,.cbx 0 2 (.tmp 0),none⟩,
 ⟨some 6,.mov (.cst (.d (.int .i64 0))),none⟩])
 (.scope
 (.seq
 (.reg [] [⟨some 7,.mov (.cst (.d (.int .i64 0))),none⟩])
 (.seq
 .skip
 (.seq
 (.seq
 (.reg [] [⟨some 10,.fad 1 (.tmp 3),none⟩,
 ⟨some 11,.ld false 1 (.tmp 10),none⟩,
 ⟨some 12,.len (.tmp 11),none⟩,
 ⟨some 13,.mov (.cst (.d (.int .i64 0))),none⟩])
 (.post [7] [0,1]
 (.block 0
 (.keep [1,2,7,11,12,13] [0]
 (.loop
 (.post [1,2,7,11,12,13] [1]
 (.seq
 (.reg [] [⟨some 14,.cmp .lss (.tmp 13) (.tmp 12),none⟩])
 (.seq
 (.cond (.tmp 14)
 .skip
 (.exit 0))
 (.seq
 (.block 1
 (.seq
 (.reg [1] [⟨some 15,.ixa 3 (.tmp 11) (.tmp 13),none⟩,
 ⟨some 16,.ld true 3 (.tmp 15),none⟩,
 ⟨some 9,.alloc 1 [(.d (.int .i64 0)),(.d (.int .i64 0)),(.d (.int .i64 0))],none⟩,
 ⟨none,.st 3 (.tmp 9) (.tmp 16),none⟩])
 (.seq
 (.reg [] [⟨some 17,.ld true 3 (.tmp 9),none⟩,
 ⟨some 18,.call 94 [(.tmp 17)],none⟩,
 ⟨some 19,.mov (.tmp 1),none⟩,
 ⟨some 20,.mov (.tmp 2),none⟩,
 ⟨some 21,.mini (.tmp 19) (.tmp 20),none⟩,
 ⟨some 22,.mov (.tmp 1),none⟩,
 ⟨some 23,.mov (.tmp 2),none⟩,
 ⟨some 24,.maxi (.tmp 22) (.tmp 23),none⟩,
 ⟨some 25,.build [(.d (.int .i64 0)),(.d (.int .i64 0))] [(0,1,(.tmp 21)),(1,1,(.tmp 24))],none⟩,
 ⟨some 26,.aeq false [0,0] (.tmp 18) (.tmp 25),none⟩])
 (.cond (.tmp 26)
 (.seq
 (.reg [] [⟨some 27,.fad 2 (.tmp 9),none⟩,
 ⟨some 28,.ld false 1 (.tmp 27),none⟩,
 ⟨some 7,.mov (.tmp 28),none⟩])
 (.exit 0))
 .skip))))
 (.reg [] [⟨some 29,.arith .add .i64 (.tmp 13) (.cst (.d (.int .i64 1))),none⟩,
 ⟨some 13,.mov (.tmp 29),none⟩]))))))))))
 (.seq
 (.reg [] [⟨some 30,.mov (.tmp 7),none⟩,
 ⟨some 6,.mov (.tmp 30),none⟩])
 .ret))))))⟩
def ir88:AFun:=⟨24,3,[.tmp 4],
 (.seq
 (.reg [0] [⟨some 2,.cbx 0 2 (.tmp 0),none⟩,
 ⟨some 4,.mov (.cst (.nils 1)),none⟩])
 (.seq
 (.reg [] [⟨some 5,.mov (.cst (.nils 1)),none⟩])
 (.seq
 (.seq
 (.reg [] [⟨some 7,.fad 0 (.tmp 2),none⟩,
 ⟨some 8,.ld false 1 (.tmp 7),none⟩,
 ⟨some 9,.len (.tmp 8),none⟩,
 ⟨some 10,.mov (.cst (.d (.int .i64 0))),none⟩])
 (.post [5] [0,1,2]
 (.block 0
 (.asrow 2 3 1 5
 (.keep [1,2,5,9,10] [0]
 (.loop
 (.post [1,2,5,9,10] [1,2]
 (.seq
 (.reg [] [⟨some 11,.cmp .lss (.tmp 10) (.tmp 9),none⟩])
 (.seq
 (.cond (.tmp 11)
 .skip
 (.exit 0))
 (.seq
 (.block 1
 (.seq
 (.reg [] [⟨some 12,.mov (.tmp 10),none⟩,
 ⟨some 6,.mov (.tmp 12),none⟩])
 (.seq
 (.reg [] [⟨some 13,.ld true 2 (.tmp 2),none⟩,
 ⟨some 14,.mov (.tmp 1),none⟩,
 ⟨some 15,.mov (.tmp 6),none⟩,
 ⟨some 16,.call 71 [(.tmp 13),(.tmp 14),(.tmp 15)],none⟩,
 ⟨some 17,.cmp .gtr (.tmp 16) (.cst (.d (.int .i64 0))),none⟩])
 (.cond (.tmp 17)
 (.reg [1,2] [⟨some 18,.mov (.tmp 5),none⟩,
 ⟨some 19,.mov (.tmp 6),none⟩,
 ⟨some 20,.bsl 1 3 1 1 [(.int .i64 0)] [(0,(.tmp 19))],none⟩,
 ⟨some 21,.app 2 3 1 8 (.tmp 18) (.tmp 20),none⟩,
 ⟨some 5,.mov (.tmp 21),none⟩])
 .skip))))
 (.reg [] [⟨some 22,.arith .add .i64 (.tmp 10) (.cst (.d (.int .i64 1))),none⟩,
 ⟨some 10,.mov (.tmp 22),none⟩])))))))))))
 (.seq
 (.reg [] [⟨some 23,.mov (.tmp 5),none⟩,
 ⟨some 4,.mov (.tmp 23),none⟩])
 .ret))))⟩
theorem c95 (m:Ms) (i:Int):CallDet Tryz.prog 102 [.d m.d,.d (.int .i64 i)] [.bool (m.has i)]:=by
 have hlen:=strs_len m.ns
 refine call_of_vc (x:=ir95) (by kernel_rfl) rfl ?_
 have e:m.has i=(decide (0≤i)&&decide (i < ((strs m.ns).length:Int))):=by rw [hlen]; rfl
 refine sd ?_
 refine b_intro (fun h=>?_) (fun h=>?_)
 ·have h:decide (0≤i)=true:=h
  rw [h] at e
  refine sd ?_
  exact (congrArg (fun b=>resV [.bool b]) e).symm
 ·have h:decide (0≤i)=false:=h
  rw [h] at e
  refine sd ?_
  exact (congrArg (fun b=>resV [.bool b]) e).symm
theorem c23 (m:Ms) (i:Int):CallDet Tryz.prog 80 [.d m.d,.d (.int .i64 i)] [.int .i64 (m.nodeE i)]:=by
 refine call_of_vc (x:=ir23) (by kernel_rfl) rfl ?_
 refine ca (c95 m i) ?_
 refine ca (c49 _ _) ?_
 have e:m.nodeE i=bif !(m.has i) then 10 else 0:=by rw [has_out]; rfl
 exact (congrArg (fun b=>resV [.int .i64 b]) e).symm
theorem c87 (m:Ms) (i:Int):CallDet Tryz.prog 28 [.d m.d,.d (.int .i64 i)] [.int .i64 (m.nodeE i)]:=by
 have hlen:=strs_len m.ns
 refine call_of_vc (x:=ir87) (by kernel_rfl) rfl ?_
 have e:m.nodeE i=bif decide (i < 0)||decide (((strs m.ns).length:Int)≤i) then 10 else 0:=by rw [hlen]; rfl
 refine sd ?_
 refine b_intro (fun h=>?_) (fun h=>?_)
 ·have h:decide (i < 0)=true:=h
  rw [h] at e
  refine sd ?_
  refine ca (c89 _ _) ?_
  exact (congrArg (fun b=>resV [.int .i64 b]) e).symm
 ·have h:decide (i < 0)=false:=h
  rw [h] at e
  refine sd ?_
  refine ca (c89 _ _) ?_
  exact (congrArg (fun b=>resV [.int .i64 b]) e).symm
theorem c123 (l:Lk):CallDet Tryz.prog 94 [.d l.d] [.agg [.int .i64 l.a,.int .i64 l.b]]:=by
 refine call_of_vc (x:=ir123) (by kernel_rfl) rfl ?_
 exact rfl
theorem c91 (m:Ms) (a b:Int) (hl:m.ls.length≤1048576):CallDet Tryz.prog 71 [.d m.d,.d (.int .i64 a),.d (.int .i64 b)] [.int .i64 (betw m.ls a b)]:=by
 have hlen:=lks_len m.ls
 refine call_of_vc (x:=ir91) (by kernel_rfl) rfl ?_
 refine loop_st (fun k:Nat=>⟨[(1,.d (.int .i64 a)),(2,.d (.int .i64 b)),(7,.d (.int .i64 0)),(11,.d (.slice 3 (lks m.ls))),(12,.d (.int .i64 ((lks m.ls).length:Int))),(13,.d (.int .i64 k))],[.none,.none]⟩)
  (fun k=>betw m.ls a b=betw (m.ls.drop k) a b) (fun k=>m.ls.length - k) 0 rfl rfl ?_
 intro k hi
 refine sd ?_
 refine b_lt (fun h=>?_) (fun h=>?_)
 ·have h:(k:Int) < ((lks m.ls).length:Int):=h
  refine Exists.elim (get_lt m.ls (k:=k) (by omega)) fun l hx=>?_
  rw [betw_at hx] at hi
  refine ix_at (lks_at hx) (by omega) ?_
  refine ca (c123 l) ?_
  refine sd ?_
  refine sd ?_
  refine Exists.intro _ (And.intro ⟨hit l a b,rfl,rfl⟩ ?_)
  refine b_intro (fun h2=>?_) (fun h2=>?_)
  ·have h2:hit l a b=true:=h2
   rw [h2] at hi
   exact (congrArg (fun b=>resV [.int .i64 b]) hi).symm
  ·have h2:hit l a b=false:=h2
   rw [h2] at hi
   refine ar_add (by omega) ?_
   exact ⟨k+1,⟨hi,by omega⟩,rfl⟩
 ·have h:¬ (k:Int) < ((lks m.ls).length:Int):=h
  rw [List.drop_eq_nil_of_le (by omega)] at hi
  exact (congrArg (fun b=>resV [.int .i64 b]) hi).symm
theorem c88 (m:Ms) (i:Int) (hn:m.ns.length≤1048576) (hl:m.ls.length≤1048576):CallDet Tryz.prog 31 [.d m.d,.d (.int .i64 i)] [.slice 1 (ints (m.nbs i))]:=by
 have hlen:=strs_len m.ns
 refine call_of_vc (x:=ir88) (by kernel_rfl) rfl ?_
 refine loop_st (fun k:Nat=>⟨[(1,.d (.int .i64 i)),(2,.ptr 0 0),(5,.sl 2 (ints (nbs m i k)).length),(9,.d (.int .i64 ((strs m.ns).length:Int))),(10,.d (.int .i64 k))],[.cbox [.slice 1 (strs m.ns),.slice 3 (lks m.ls)],.none,.row 3 1 (ints (nbs m i k)) false]⟩)
  (fun k=>k≤m.ns.length) (fun k=>m.ns.length - k) 0 rfl (Nat.zero_le _) ?_
 intro k hk
 have hb:=nbs_len m i k
 have hi:=ints_len (nbs m i k)
 refine sd ?_
 refine b_lt (fun h=>?_) (fun h=>?_)
 ·have h:(k:Int) < ((strs m.ns).length:Int):=h
  refine ca (c91 m i k hl) ?_
  refine sd ?_
  refine b_intro (fun h2=>?_) (fun h2=>?_)
  ·have h2:decide (0 < betw m.ls i k)=true:=h2
   have e:nbs m i (k+1)=nbs m i k++[(k:Int)]:=by rw [Vc.nbs,h2]; rfl
   repeat refine sd ?_
   refine And.intro ⟨rfl,rfl,rfl,?_,?_⟩ ?_
   ·show ((ints (nbs m i k)).length+1) * 8≤2 ^ 47
    omega
   ·show (ints (nbs m i k)).length+1≤2 ^ 47
    omega
   refine ar_add (by omega) ?_
   refine ⟨k+1,⟨by omega,by omega⟩,?_⟩
   rw [e,ints,ints,List.map_append]; rfl
  ·have h2:decide (0 < betw m.ls i k)=false:=h2
   have e:nbs m i (k+1)=nbs m i k:=by rw [Vc.nbs,h2]; exact List.append_nil _
   refine ar_add (by omega) ?_
   refine ⟨k+1,⟨by omega,by omega⟩,?_⟩
   rw [e]; rfl
 ·have h:¬ (k:Int) < ((strs m.ns).length:Int):=h
  have e:k=m.ns.length:=by omega
  refine sd ?_
  rw [e]
  exact rfl
end Vc
set_option maxRecDepth 10000
namespace Vc
open Go Go.Proofs
def scanE {α:Type} (f:List α→α→Int):List α→List α→Int
 | _,[]=>0
 | pre,x::r=>bif f pre x != 0 then f pre x else scanE f (pre++[x]) r
section
variable {α : Type} {f : List α → α → Int} {l : List α} {k : Nat} {x : α}
theorem scan_at (h:l[k]?=some x):scanE f (l.take k) (l.drop k)=bif f (l.take k) x != 0 then f (l.take k) x else scanE f (l.take (k+1)) (l.drop (k+1)):=by
 rw [drop_at h,scanE,take_one h]
theorem scan_bad (hi:scanE f [] l=scanE f (l.take k) (l.drop k)) (h:l[k]?=some x) (hb:(f (l.take k) x != 0)=true):scanE f [] l=f (l.take k) x:=by
 rw [hi,scan_at h,hb]; rfl
theorem scan_ok (hi:scanE f [] l=scanE f (l.take k) (l.drop k)) (h:l[k]?=some x) (hb:(f (l.take k) x != 0)=false):scanE f [] l=scanE f (l.take (k+1)) (l.drop (k+1)):=by
 rw [hi,scan_at h,hb]; rfl
theorem scan_end (hi:scanE f [] l=scanE f (l.take k) (l.drop k)) (h:l.length≤k):scanE f [] l=0:=by
 rw [hi,List.drop_eq_nil_of_le h,scanE]
end
theorem scan_zero {α:Type} {f:List α→α→Int} {l:List α} (h:scanE f [] l=0):∀ (k:Nat),scanE f (l.take k) (l.drop k)=0
 | 0=>h
 | k+1=>by
  have ih:=scan_zero h k
  rcases Nat.lt_or_ge k l.length with hk | hk
  ·obtain ⟨x,hx⟩:=get_lt l hk
   rw [scan_at hx] at ih
   cases hb:(f (l.take k) x != 0)
   ·rw [hb] at ih; exact ih
   ·rw [hb] at ih
    have h0:f (l.take k) x=0:=ih
    rw [h0] at hb; cases hb
  ·rw [List.drop_eq_nil_of_le (by omega),scanE]
theorem scan_each {α:Type} {f:List α→α→Int} {l:List α} (h:scanE f [] l=0) {k:Nat} {x:α} (hx:l[k]?=some x):f (l.take k) x=0:=by
 have ih:=scan_zero h k
 rw [scan_at hx] at ih
 cases hb:(f (l.take k) x != 0)
 ·simpa using hb
 ·rw [hb] at ih; exact ih
def outs (n:Int) (l:Lk):Int:=firstOf [bif outN n l.a then 10 else 0,bif outN n l.b then 10 else 0,bif decide (l.b≤l.a) then 11 else 0]
def sameL (o l:Lk):Bool:=o.a==l.a&&(o.b==l.b&&true)
def linkE (n:Int) (pre:List Lk) (l:Lk):Int:=bif outs n l != 0 then outs n l else bif pre.any (fun o=>sameL o l) then 9 else within3 l.c 1 100
def nameE (pre:List (List UInt8)) (x:List UInt8):Int:=firstOf [bif !(isNm x) then 8 else 0,bif pre.contains x then 9 else 0]
def Ms.chk (m:Ms):Int:=bif decide ((32:Int) < (m.ns.length:Int)) then 5 else bif scanE nameE [] m.ns != 0 then scanE nameE [] m.ns else
 bif decide ((128:Int) < (m.ls.length:Int)) then 5 else scanE (linkE m.ns.length) [] m.ls
theorem chk_1 {m:Ms} (h:(32:Int) < (m.ns.length:Int)):m.chk=5:=by unfold Ms.chk; rw [decide_eq_true h]; rfl
theorem chk_2 {m:Ms} {v:Int} (h:¬ (32:Int) < (m.ns.length:Int)) (e:scanE nameE [] m.ns=v) (hv:(v != 0)=true):m.chk=v:=by unfold Ms.chk; rw [decide_eq_false h,e,hv]; rfl
theorem chk_3 {m:Ms} (h:¬ (32:Int) < (m.ns.length:Int)) (e:scanE nameE [] m.ns=0) (h2:(128:Int) < (m.ls.length:Int)):m.chk=5:=by unfold Ms.chk; rw [decide_eq_false h,e,decide_eq_true h2]; rfl
theorem chk_4 {m:Ms} {v:Int} (h:¬ (32:Int) < (m.ns.length:Int)) (e:scanE nameE [] m.ns=0) (h2:¬ (128:Int) < (m.ls.length:Int)) (e2:scanE (linkE m.ns.length) [] m.ls=v):m.chk=v:=by unfold Ms.chk; rw [decide_eq_false h,e,decide_eq_false h2,e2]; rfl
theorem outs_zero {n:Int} {l:Lk} (h:outs n l=0):(0≤l.a∧l.a < n)∧(0≤l.b∧l.b < n)∧l.a < l.b:=by
 have h1:=firstOf_zero h
 have ha:=h1 (bif outN n l.a then 10 else 0) (by simp)
 have hb:=h1 (bif outN n l.b then 10 else 0) (by simp)
 have hc:=h1 (bif decide (l.b≤l.a) then 11 else 0) (by simp)
 have key:∀ i,(bif outN n i then (10:Int) else 0)=0→0≤i∧i < n:=fun i hi=>by
  unfold outN at hi
  by_cases e1:i < 0
  ·rw [decide_eq_true e1] at hi; cases hi
  ·by_cases e2:n≤i
   ·rw [decide_eq_false e1,decide_eq_true e2] at hi; cases hi
   ·omega
 refine ⟨key _ ha,key _ hb,?_⟩
 by_cases e:l.b≤l.a
 ·rw [decide_eq_true e] at hc; cases hc
 ·omega
theorem linkE_zero {n:Int} {pre:List Lk} {l:Lk} (h:linkE n pre l=0):outs n l=0∧pre.any (fun o=>sameL o l)=false∧(1≤l.c∧l.c≤100):=by
 unfold linkE at h
 cases h1:(outs n l != 0)
 ·rw [h1] at h
  cases h2:pre.any (fun o=>sameL o l)
  ·rw [h2] at h
   exact ⟨by simpa using h1,rfl,within_ok h⟩
  ·rw [h2] at h; cases h
 ·rw [h1] at h
  have h:outs n l=0:=h
  rw [h] at h1; cases h1
structure Ms.fine (m:Ms):Prop where
 n32:m.ns.length≤32
 l128:m.ls.length≤128
 links:∀ k l,m.ls[k]?=some l→linkE m.ns.length (m.ls.take k) l=0
 names:∀ k x,m.ns[k]?=some x→nameE (m.ns.take k) x=0
theorem chk_fine {m:Ms} (h:m.chk=0):m.fine:=by
 by_cases h1:(32:Int) < (m.ns.length:Int)
 ·rw [chk_1 h1] at h; cases h
 cases h2:(scanE nameE [] m.ns != 0)
 ·have h2:scanE nameE [] m.ns=0:=by simpa using h2
  by_cases h3:(128:Int) < (m.ls.length:Int)
  ·rw [chk_3 h1 h2 h3] at h; cases h
  ·rw [chk_4 h1 h2 h3 rfl] at h
   exact ⟨by omega,by omega,fun k l hl=>scan_each h hl,fun k x hx=>scan_each h2 hx⟩
 ·rw [chk_2 h1 rfl h2] at h
  rw [h] at h2; cases h2
theorem Ms.fine.link {m:Ms} (h:m.fine) {l:Lk} (hl:l∈m.ls):((0≤l.a∧l.a < (m.ns.length:Int))∧(0≤l.b∧l.b < (m.ns.length:Int))∧l.a < l.b)∧(1≤l.c∧l.c≤100):=by
 obtain ⟨k,hk,e⟩:=List.mem_iff_getElem.1 hl
 have:=linkE_zero (h.links k l (List.getElem?_eq_some_iff.2 ⟨hk,e⟩))
 exact ⟨outs_zero this.1,this.2.2⟩
theorem Ms.fine.asc {m:Ms} (h:m.fine):asc m.ls:=fun l hl=>(h.link hl).1.2.2
def idxF {α:Type} (p:α→Bool):List α→Int→Int
 | [],_=>-1
 | x::r,k=>bif p x then k else idxF p r (k+1)
theorem idxF_ge {α:Type} (p:α→Bool):∀ (l:List α) (k:Int),0≤k→decide (0≤idxF p l k)=l.any p
 | [],k,_=>rfl
 | x::r,k,h=>by
  rw [idxF,List.any_cons]
  cases p x
  ·exact idxF_ge p r (k+1) (by omega)
  ·exact decide_eq_true h
theorem take_lks {ls:List Lk} (k:Nat):((lks ls).take ((k:Int)).toNat).drop ((0:Int)).toNat=lks (ls.take k):=by simp [lks,List.map_take]
theorem take_strs {ls:List (List UInt8)} (k:Nat):((strs ls).take ((k:Int)).toNat).drop ((0:Int)).toNat=strs (ls.take k):=by simp [strs,List.map_take]
theorem findM_names (s:List UInt8):∀ l:List (List UInt8),findM (.str s) (l.map fun n=>(.str n,.bool true))=if l.contains s then some (.bool true) else none
 | []=>rfl
 | n::r=>by
  show (match dEq (.str s) (.str n) with | true=>some (Data.bool true) | false=>findM (.str s) (r.map fun n=>(.str n,.bool true)))=_
  rw [List.contains_cons,findM_names s r]
  show (match (s==n) with | true=>_ | false=>_)=_
  cases (s==n) <;> simp
theorem putM_names (s:List UInt8):∀ l:List (List UInt8),l.contains s=false→putM (.str s) (.bool true) (l.map fun n=>(.str n,.bool true))=(l++[s]).map fun n=>(.str n,.bool true)
 | [],_=>rfl
 | n::r,h=>by
  rw [List.contains_cons,Bool.or_eq_false_iff] at h
  show (match (s==n) with | true=>_ | false=>_)=_
  rw [h.1]
  show (Data.str n,Data.bool true)::putM (.str s) (.bool true) (r.map fun n=>(.str n,.bool true))=_
  rw [putM_names s r h.2]; rfl
theorem keys_names:∀ l:List (List UInt8),keysOk none (l.map fun n=>(.str n,.bool true))=true
 | []=>rfl
 | n::r=>keys_names r
def ir94:AFun:=⟨56,3,[.tmp 4],
 (.seq
 (.reg [0,1] [⟨some 2,.cbx 0 2 (.tmp 0),none⟩,
 ⟨some 3,.cbx 1 3 (.tmp 1),none⟩,
 ⟨some 4,.mov (.cst (.d (.int .i64 0))),none⟩])
 (.seq
 (.seq
 (.regd [2] [⟨some 7,.ld true 2 (.tmp 2),none⟩,
 ⟨some 8,.fad 0 (.tmp 3),none⟩,
 ⟨some 9,.ld false 1 (.tmp 8),none⟩,
 ⟨some 10,.call 80 [(.tmp 7),(.tmp 9)],none⟩,
 ⟨some 11,.ld true 2 (.tmp 2),none⟩,
 ⟨some 12,.fad 1 (.tmp 3),none⟩,
 ⟨some 13,.ld false 1 (.tmp 12),none⟩,
 ⟨some 14,.call 80 [(.tmp 11),(.tmp 13)],none⟩,
 ⟨some 15,.fad 0 (.tmp 3),none⟩,
 ⟨some 16,.ld false 1 (.tmp 15),none⟩,
 ⟨some 17,.fad 1 (.tmp 3),none⟩,
 ⟨some 18,.ld false 1 (.tmp 17),none⟩,
 ⟨some 19,.cmp .geq (.tmp 16) (.tmp 18),none⟩,
 ⟨some 20,.call 50 [(.tmp 19),(.cst (.d (.int .i64 11)))],none⟩,
 ⟨some 21,.bsl 2 3 1 3 [(.int .i64 0),(.int .i64 0),(.int .i64 0)] [(0,(.tmp 10)),(1,(.tmp 14)),(2,(.tmp 20))],none⟩,
 ⟨some 22,.call 79 [(.tmp 21)],none⟩,
 ⟨some 5,.mov (.tmp 22),none⟩] [(0,1),(0,2),(0,4),(1,4),(2,4),(3,4),(0,5),(1,5),(2,5),(3,5),(4,5),(0,6),(1,6),(2,6),(3,6),(4,6),(0,8),(1,8),(2,8),(3,8),(4,8),(5,8),(6,8),(7,8),(0,9),(1,9),(2,9),(3,9),(4,9),(5,9),(6,9),(7,9),(0,10),(1,10),(2,10),(3,10),(4,10),(5,10),(6,10),(7,10),(8,10),(9,10),(0,11),(1,11),(2,11),(3,11),(4,11),(5,11),(6,11),(7,11),(8,11),(9,11),(0,12),(1,12),(2,12),(3,12),(4,12),(5,12),(6,12),(7,12)])
 (.seq
 (.reg [] [⟨some 23,.mov (.tmp 5),none⟩,
 ⟨some 24,.cmp .neq (.tmp 23) (.cst (.d (.int .i64 0))),none⟩])
 (.cond (.tmp 24)
 (.seq
 (.reg [] [⟨some 25,.mov (.tmp 5),none⟩,
 ⟨some 4,.mov (.tmp 25),none⟩])
 .ret)
 .skip)))
 (.seq
 (.seq
 (.reg [] [⟨some 6,.mov (.cst (.d (.int .i64 0))),none⟩])
 (.post [3] [0,1,2]
 (.block 0
 (.keep [2,3,6] [0,1,2]
 (.loop
 (.post [2,3,6] []
 (.seq
 (.seq
 (.reg [] [⟨some 26,.mov (.tmp 6),none⟩,
 ⟨some 27,.fad 1 (.tmp 2),none⟩,
 ⟨some 28,.ld false 1 (.tmp 27),none⟩,
 ⟨some 29,.len (.tmp 28),none⟩,
 ⟨some 30,.cmp .lss (.tmp 26) (.tmp 29),none⟩])
 (.cond (.tmp 30)
 .skip
 (.exit 0)))
 (.seq
 (.block 1
 (.seq
 (.regd [] [⟨some 33,.fad 1 (.tmp 2),none⟩,
 ⟨some 34,.ld false 1 (.tmp 33),none⟩,
 ⟨some 35,.mov (.tmp 6),none⟩,
 ⟨some 36,.ixa 3 (.tmp 34) (.tmp 35),none⟩,
 ⟨some 37,.fad 0 (.tmp 36),none⟩,
 ⟨some 38,.ld false 1 (.tmp 37),none⟩,
 ⟨some 39,.fad 0 (.tmp 3),none⟩,
 ⟨some 40,.ld false 1 (.tmp 39),none⟩,
 ⟨some 41,.cmp .eql (.tmp 38) (.tmp 40),none⟩,
 ⟨some 42,.mov (.tmp 41),none⟩,
 ⟨some 43,.fad 1 (.tmp 2),some (42,true)⟩,
 ⟨some 44,.ld false 1 (.tmp 43),some (42,true)⟩,
 ⟨some 45,.mov (.tmp 6),some (42,true)⟩,
 ⟨some 46,.ixa 3 (.tmp 44) (.tmp 45),some (42,true)⟩,
 ⟨some 47,.fad 1 (.tmp 46),some (42,true)⟩,
 ⟨some 48,.ld false 1 (.tmp 47),some (42,true)⟩,
 ⟨some 49,.fad 1 (.tmp 3),some (42,true)⟩,
 ⟨some 50,.ld false 1 (.tmp 49),some (42,true)⟩,
 ⟨some 51,.cmp .eql (.tmp 48) (.tmp 50),some (42,true)⟩,
 ⟨some 52,.pick (.tmp 42) (.tmp 51) (.cst (.d (.bool false))),none⟩] [(0,2),(1,2),(0,6),(1,6),(2,6),(3,6),(4,6),(5,6),(0,7),(1,7),(2,7),(3,7),(4,7),(5,7),(10,12),(11,12),(10,16),(11,16),(12,16),(13,16),(14,16),(15,16),(10,17),(11,17),(12,17),(13,17),(14,17),(15,17)])
 (.cond (.tmp 52)
 (.seq
 (.reg [] [⟨some 4,.mov (.cst (.d (.int .i64 9))),none⟩])
 .ret)
 .skip)))
 (.reg [] [⟨some 31,.mov (.tmp 6),none⟩,
 ⟨some 32,.arith .add .i64 (.tmp 31) (.cst (.d (.int .i64 1))),none⟩,
 ⟨some 6,.mov (.tmp 32),none⟩])))))))))
 (.seq
 (.reg [] [⟨some 53,.fad 2 (.tmp 3),none⟩,
 ⟨some 54,.ld false 1 (.tmp 53),none⟩,
 ⟨some 55,.call 81 [(.tmp 54),(.cst (.d (.int .i64 1))),(.cst (.d (.int .i64 100)))],none⟩,
 ⟨some 4,.mov (.tmp 55),none⟩])
 .ret))))⟩
def ir22:AFun:=⟨61,1,[.tmp 2],
 (.seq
 (.reg [0] [⟨some 1,.cbx 0 2 (.tmp 0),none⟩,
 ⟨some 2,.mov (.cst (.d (.int .i64 0))),none⟩])
 (.seq
 (.seq
 (.reg [] [⟨some 6,.fad 0 (.tmp 1),none⟩,
 ⟨some 7,.ld false 1 (.tmp 6),none⟩,
 ⟨some 8,.len (.tmp 7),none⟩,
 ⟨some 9,.cmp .gtr (.tmp 8) (.cst (.d (.int .i64 32))),none⟩])
 (.cond (.tmp 9)
 (.seq
 (.reg [] [⟨some 2,.mov (.cst (.d (.int .i64 5))),none⟩])
 .ret)
 .skip))
 (.seq
 (.seq
 (.reg [] [⟨some 3,.mov (.cst (.d (.int .i64 0))),none⟩])
 (.post [1] [0]
 (.block 0
 (.keep [1,3] [0]
 (.loop
 (.post [1,3] []
 (.seq
 (.seq
 (.reg [] [⟨some 10,.mov (.tmp 3),none⟩,
 ⟨some 11,.fad 0 (.tmp 1),none⟩,
 ⟨some 12,.ld false 1 (.tmp 11),none⟩,
 ⟨some 13,.len (.tmp 12),none⟩,
 ⟨some 14,.cmp .lss (.tmp 10) (.tmp 13),none⟩])
 (.cond (.tmp 14)
 .skip
 (.exit 0)))
 (.seq
 (.block 1
 (.seq
 (.seq
 (.reg [] [⟨some 17,.fad 0 (.tmp 1),none⟩,
 ⟨some 18,.ld false 1 (.tmp 17),none⟩,
 ⟨some 19,.mov (.tmp 3),none⟩,
 ⟨some 20,.ixa 1 (.tmp 18) (.tmp 19),none⟩,
 ⟨some 21,.ld false 1 (.tmp 20),none⟩,
 ⟨some 22,.call 47 [(.tmp 21)],none⟩,
 ⟨some 23,.not (.tmp 22),none⟩])
 (.cond (.tmp 23)
 (.seq
 (.reg [] [⟨some 2,.mov (.cst (.d (.int .i64 8))),none⟩])
 .ret)
 .skip))
 (.seq
 (.regd [] [⟨some 24,.fad 0 (.tmp 1),none⟩,
 ⟨some 25,.ld false 1 (.tmp 24),none⟩,
 ⟨some 26,.mov (.tmp 3),none⟩,
 ⟨some 27,.slc 1 (.tmp 25) none (some (.tmp 26)),none⟩,
 ⟨some 28,.fad 0 (.tmp 1),none⟩,
 ⟨some 29,.ld false 1 (.tmp 28),none⟩,
 ⟨some 30,.mov (.tmp 3),none⟩,
 ⟨some 31,.ixa 1 (.tmp 29) (.tmp 30),none⟩,
 ⟨some 32,.ld false 1 (.tmp 31),none⟩,
 ⟨some 33,.call 48 [(.tmp 27),(.tmp 32)],none⟩] [(0,2),(1,2),(0,4),(1,4),(2,4),(3,4),(0,5),(1,5),(2,5),(3,5),(0,6),(1,6),(2,6),(3,6),(4,6),(5,6),(0,7),(1,7),(2,7),(3,7),(0,8),(1,8),(2,8),(3,8)])
 (.cond (.tmp 33)
 (.seq
 (.reg [] [⟨some 2,.mov (.cst (.d (.int .i64 9))),none⟩])
 .ret)
 .skip))))
 (.reg [] [⟨some 15,.mov (.tmp 3),none⟩,
 ⟨some 16,.arith .add .i64 (.tmp 15) (.cst (.d (.int .i64 1))),none⟩,
 ⟨some 3,.mov (.tmp 16),none⟩])))))))))
 (.seq
 (.seq
 (.reg [] [⟨some 34,.fad 1 (.tmp 1),none⟩,
 ⟨some 35,.ld false 1 (.tmp 34),none⟩,
 ⟨some 36,.len (.tmp 35),none⟩,
 ⟨some 37,.cmp .gtr (.tmp 36) (.cst (.d (.int .i64 128))),none⟩])
 (.cond (.tmp 37)
 (.seq
 (.reg [] [⟨some 2,.mov (.cst (.d (.int .i64 5))),none⟩])
 .ret)
 .skip))
 (.seq
 (.seq
 (.reg [] [⟨some 4,.mov (.cst (.d (.int .i64 0))),none⟩])
 (.post [] [0]
 (.block 2
 (.keep [1,4] [0]
 (.loop
 (.post [1,4] []
 (.seq
 (.seq
 (.reg [] [⟨some 38,.mov (.tmp 4),none⟩,
 ⟨some 39,.fad 1 (.tmp 1),none⟩,
 ⟨some 40,.ld false 1 (.tmp 39),none⟩,
 ⟨some 41,.len (.tmp 40),none⟩,
 ⟨some 42,.cmp .lss (.tmp 38) (.tmp 41),none⟩])
 (.cond (.tmp 42)
 .skip
 (.exit 2)))
 (.seq
 (.block 3
 (.seq
 (.regd [] [⟨some 45,.fad 0 (.tmp 1),none⟩,
 ⟨some 46,.ld false 1 (.tmp 45),none⟩,
 ⟨some 47,.fad 1 (.tmp 1),none⟩,
 ⟨some 48,.ld false 1 (.tmp 47),none⟩,
 ⟨some 49,.mov (.tmp 4),none⟩,
 ⟨some 50,.slc 3 (.tmp 48) none (some (.tmp 49)),none⟩,
 ⟨some 51,.build [(.nils 1),(.nils 3)] [(0,1,(.tmp 46)),(1,1,(.tmp 50))],none⟩,
 ⟨some 52,.fad 1 (.tmp 1),none⟩,
 ⟨some 53,.ld false 1 (.tmp 52),none⟩,
 ⟨some 54,.mov (.tmp 4),none⟩,
 ⟨some 55,.ixa 3 (.tmp 53) (.tmp 54),none⟩,
 ⟨some 56,.ld true 3 (.tmp 55),none⟩,
 ⟨some 57,.call 49 [(.tmp 51),(.tmp 56)],none⟩,
 ⟨some 5,.mov (.tmp 57),none⟩] [(0,2),(1,2),(0,3),(1,3),(0,4),(1,4),(2,4),(3,4),(0,5),(1,5),(0,7),(1,7),(2,7),(3,7),(4,7),(5,7),(6,7),(0,8),(1,8),(2,8),(3,8),(4,8),(5,8),(6,8),(0,9),(1,9),(2,9),(3,9),(4,9),(5,9),(6,9),(7,9),(8,9),(0,10),(1,10),(2,10),(3,10),(4,10),(5,10),(6,10),(0,11),(1,11),(2,11),(3,11),(4,11),(5,11),(6,11)])
 (.seq
 (.reg [] [⟨some 58,.mov (.tmp 5),none⟩,
 ⟨some 59,.cmp .neq (.tmp 58) (.cst (.d (.int .i64 0))),none⟩])
 (.cond (.tmp 59)
 (.seq
 (.reg [] [⟨some 60,.mov (.tmp 5),none⟩,
 ⟨some 2,.mov (.tmp 60),none⟩])
 .ret)
 .skip))))
 (.reg [] [⟨some 43,.mov (.tmp 4),none⟩,
 ⟨some 44,.arith .add .i64 (.tmp 43) (.cst (.d (.int .i64 1))),none⟩,
 ⟨some 4,.mov (.tmp 44),none⟩])))))))))
 (.seq
 (.reg [] [⟨some 2,.mov (.cst (.d (.int .i64 0))),none⟩])
 .ret))))))⟩
def ir143:AFun:=⟨9,1,[.tmp 3],
 (.seq
 (.reg [0] [⟨some 2,.cbx 0 3 (.tmp 0),none⟩,
 ⟨some 3,.mov (.cst (.d (.bool false))),none⟩])
 (.seq
 (.regd [] [⟨some 4,.ld true 3 (.tmp 2),none⟩,
 ⟨some 5,.call 94 [(.tmp 4)],none⟩,
 ⟨some 6,.ld true 3 (.tmp 1),none⟩,
 ⟨some 7,.call 94 [(.tmp 6)],none⟩,
 ⟨some 8,.aeq false [0,0] (.tmp 5) (.tmp 7),none⟩,
 ⟨some 3,.mov (.tmp 8),none⟩] [(0,2),(1,2)])
 .ret))⟩
def ir149:AFun:=⟨19,0,[.tmp 4],
 (.seq
 (.reg [] [⟨some 4,.mov (.cst (.d (.int .i64 0))),none⟩])
 (.seq
 (.seq
 (.reg [] [⟨some 6,.mov (.tmp 0),none⟩,
 ⟨some 7,.len (.tmp 6),none⟩,
 ⟨some 8,.mov (.cst (.d (.int .i64 0))),none⟩])
 (.post [] []
 (.block 0
 (.keep [0,1,7,8] []
 (.loop
 (.post [0,1,7,8] []
 (.seq
 (.reg [] [⟨some 9,.cmp .lss (.tmp 8) (.tmp 7),none⟩])
 (.seq
 (.cond (.tmp 9)
 .skip
 (.exit 0))
 (.seq
 (.block 1
 (.seq
 (.reg [] [⟨some 10,.mov (.tmp 8),none⟩,
 ⟨some 5,.mov (.tmp 10),none⟩])
 (.seq
 (.reg [] [⟨some 11,.mov (.tmp 1),none⟩,
 ⟨some 12,.mov (.tmp 0),none⟩,
 ⟨some 13,.mov (.tmp 5),none⟩,
 ⟨some 14,.ixa 3 (.tmp 12) (.tmp 13),none⟩,
 ⟨some 15,.ld true 3 (.tmp 14),none⟩,
 ⟨some 16,.callv (.tmp 11) [(.tmp 15)],none⟩])
 (.cond (.tmp 16)
 (.seq
 (.reg [] [⟨some 17,.mov (.tmp 5),none⟩,
 ⟨some 4,.mov (.tmp 17),none⟩])
 .ret)
 .skip))))
 (.reg [] [⟨some 18,.arith .add .i64 (.tmp 8) (.cst (.d (.int .i64 1))),none⟩,
 ⟨some 8,.mov (.tmp 18),none⟩]))))))))))
 (.seq
 (.reg [] [⟨some 4,.mov (.cst (.d (.int .i64 (-1)))),none⟩])
 .ret)))⟩
def ir115:AFun:=⟨9,0,[.tmp 4],
 (.seq
 (.reg [] [⟨some 4,.mov (.cst (.d (.bool false))),none⟩])
 (.seq
 (.reg [] [⟨some 5,.mov (.tmp 0),none⟩,
 ⟨some 6,.mov (.tmp 1),none⟩,
 ⟨some 7,.call 105 [(.tmp 5),(.tmp 6)],none⟩,
 ⟨some 8,.cmp .geq (.tmp 7) (.cst (.d (.int .i64 0))),none⟩,
 ⟨some 4,.mov (.tmp 8),none⟩])
 .ret))⟩
def ir97:AFun:=⟨50,3,[.tmp 6],
 (.seq
 (.reg [0] [⟨some 3,.cbx 0 3 (.tmp 0),none⟩,
 ⟨some 6,.mov (.cst (.d (.int .i64 0))),none⟩])
 (.seq
 (.seq
 (.regd [1] [⟨some 9,.fad 0 (.tmp 3),none⟩,
 ⟨some 10,.ld false 1 (.tmp 9),none⟩,
 ⟨some 11,.cmp .lss (.tmp 10) (.cst (.d (.int .i64 0))),none⟩,
 ⟨some 12,.mov (.tmp 11),none⟩,
 ⟨some 13,.fad 0 (.tmp 3),some (12,false)⟩,
 ⟨some 14,.ld false 1 (.tmp 13),some (12,false)⟩,
 ⟨some 15,.mov (.tmp 1),some (12,false)⟩,
 ⟨some 16,.cmp .geq (.tmp 14) (.tmp 15),some (12,false)⟩,
 ⟨some 17,.pick (.tmp 12) (.cst (.d (.bool true))) (.tmp 16),none⟩,
 ⟨some 18,.call 65 [(.tmp 17),(.cst (.d (.int .i64 10)))],none⟩,
 ⟨some 19,.fad 1 (.tmp 3),none⟩,
 ⟨some 20,.ld false 1 (.tmp 19),none⟩,
 ⟨some 21,.cmp .lss (.tmp 20) (.cst (.d (.int .i64 0))),none⟩,
 ⟨some 22,.mov (.tmp 21),none⟩,
 ⟨some 23,.fad 1 (.tmp 3),some (22,false)⟩,
 ⟨some 24,.ld false 1 (.tmp 23),some (22,false)⟩,
 ⟨some 25,.mov (.tmp 1),some (22,false)⟩,
 ⟨some 26,.cmp .geq (.tmp 24) (.tmp 25),some (22,false)⟩,
 ⟨some 27,.pick (.tmp 22) (.cst (.d (.bool true))) (.tmp 26),none⟩,
 ⟨some 28,.call 65 [(.tmp 27),(.cst (.d (.int .i64 10)))],none⟩,
 ⟨some 29,.fad 0 (.tmp 3),none⟩,
 ⟨some 30,.ld false 1 (.tmp 29),none⟩,
 ⟨some 31,.fad 1 (.tmp 3),none⟩,
 ⟨some 32,.ld false 1 (.tmp 31),none⟩,
 ⟨some 33,.cmp .geq (.tmp 30) (.tmp 32),none⟩,
 ⟨some 34,.call 65 [(.tmp 33),(.cst (.d (.int .i64 11)))],none⟩,
 ⟨some 35,.bsl 1 43 1 3 [(.int .i64 0),(.int .i64 0),(.int .i64 0)] [(0,(.tmp 18)),(1,(.tmp 28)),(2,(.tmp 34))],none⟩,
 ⟨some 36,.call 26 [(.tmp 35)],none⟩,
 ⟨some 7,.mov (.tmp 36),none⟩] [(4,6),(5,6),(0,10),(1,10),(2,10),(3,10),(4,10),(5,10),(6,10),(7,10),(8,10),(9,10),(0,11),(1,11),(2,11),(3,11),(4,11),(5,11),(6,11),(7,11),(8,11),(9,11),(0,12),(1,12),(2,12),(3,12),(4,12),(5,12),(6,12),(7,12),(8,12),(9,12),(14,16),(15,16),(0,20),(1,20),(2,20),(3,20),(4,20),(5,20),(6,20),(7,20),(8,20),(9,20),(10,20),(11,20),(12,20),(13,20),(14,20),(15,20),(16,20),(17,20),(18,20),(19,20),(0,21),(1,21),(2,21),(3,21),(4,21),(5,21),(6,21),(7,21),(8,21),(9,21),(10,21),(11,21),(12,21),(13,21),(14,21),(15,21),(16,21),(17,21),(18,21),(19,21),(0,22),(1,22),(2,22),(3,22),(4,22),(5,22),(6,22),(7,22),(8,22),(9,22),(10,22),(11,22),(12,22),(13,22),(14,22),(15,22),(16,22),(17,22),(18,22),(19,22),(20,22),(21,22),(0,23),(1,23),(2,23),(3,23),(4,23),(5,23),(6,23),(7,23),(8,23),(9,23),(10,23),(11,23),(12,23),(13,23),(14,23),(15,23),(16,23),(17,23),(18,23),(19,23),(20,23),(21,23),(0,24),(1,24),(2,24),(3,24),(4,24),(5,24),(6,24),(7,24),(8,24),(9,24),(10,24),(11,24),(12,24),(13,24),(14,24),(15,24),(16,24),(17,24),(18,24),(19,24)])
 (.seq
 (.reg [] [⟨some 37,.mov (.tmp 7),none⟩,
 ⟨some 38,.cmp .neq (.tmp 37) (.cst (.d (.int .i64 0))),none⟩])
 (.cond (.tmp 38)
 (.seq
 (.reg [] [⟨some 39,.mov (.tmp 7),none⟩,
 ⟨some 6,.mov (.tmp 39),none⟩])
 .ret)
 .skip)))
 (.seq
 (.reg [] [⟨some 40,.mov (.tmp 2),none⟩,
 ⟨some 41,.mkf (.func 93) [] [(.tmp 3)],none⟩,
 ⟨some 42,.call 92 [(.tmp 40),(.tmp 41)],none⟩,
 ⟨some 8,.mov (.tmp 42),none⟩])
 (.seq
 (.regd [2] [⟨some 43,.mov (.tmp 8),none⟩,
 ⟨some 44,.call 65 [(.tmp 43),(.cst (.d (.int .i64 9)))],none⟩,
 ⟨some 45,.fad 2 (.tmp 3),none⟩,
 ⟨some 46,.ld false 1 (.tmp 45),none⟩,
 ⟨some 47,.call 95 [(.tmp 46),(.cst (.d (.int .i64 1))),(.cst (.d (.int .i64 100)))],none⟩,
 ⟨some 48,.bsl 2 43 1 2 [(.int .i64 0),(.int .i64 0)] [(0,(.tmp 44)),(1,(.tmp 47))],none⟩,
 ⟨some 49,.call 26 [(.tmp 48)],none⟩,
 ⟨some 6,.mov (.tmp 49),none⟩] [(0,2),(1,2),(0,3),(1,3)])
 .ret))))⟩
def ir27:AFun:=⟨63,4,[.tmp 2],
 (.seq
 (.reg [0] [⟨some 1,.cbx 0 2 (.tmp 0),none⟩,
 ⟨some 2,.mov (.cst (.d (.int .i64 0))),none⟩])
 (.seq
 (.seq
 (.reg [] [⟨some 10,.fad 0 (.tmp 1),none⟩,
 ⟨some 11,.ld false 1 (.tmp 10),none⟩,
 ⟨some 12,.len (.tmp 11),none⟩,
 ⟨some 13,.cmp .gtr (.tmp 12) (.cst (.d (.int .i64 32))),none⟩])
 (.cond (.tmp 13)
 (.seq
 (.reg [] [⟨some 2,.mov (.cst (.d (.int .i64 5))),none⟩])
 .ret)
 .skip))
 (.seq
 (.reg [1] [⟨some 14,.mkm 1,none⟩,
 ⟨some 3,.mov (.tmp 14),none⟩])
 (.seq
 (.seq
 (.reg [] [⟨some 15,.fad 0 (.tmp 1),none⟩,
 ⟨some 16,.ld false 1 (.tmp 15),none⟩,
 ⟨some 17,.len (.tmp 16),none⟩,
 ⟨some 18,.mov (.cst (.d (.int .i64 0))),none⟩])
 (.post [1] [0,1,2]
 (.block 0
 (.keep [1,3,16,17,18] [0,1]
 (.loop
 (.post [1,3,16,17,18] [2]
 (.seq
 (.reg [] [⟨some 19,.cmp .lss (.tmp 18) (.tmp 17),none⟩])
 (.seq
 (.cond (.tmp 19)
 .skip
 (.exit 0))
 (.seq
 (.block 1
 (.seq
 (.reg [] [⟨some 20,.ixa 1 (.tmp 16) (.tmp 18),none⟩,
 ⟨some 21,.ld false 1 (.tmp 20),none⟩,
 ⟨some 5,.mov (.tmp 21),none⟩])
 (.seq
 (.seq
 (.regd [2] [⟨some 22,.mov (.tmp 5),none⟩,
 ⟨some 23,.call 66 [(.tmp 22)],none⟩,
 ⟨some 24,.not (.tmp 23),none⟩,
 ⟨some 25,.call 65 [(.tmp 24),(.cst (.d (.int .i64 8)))],none⟩,
 ⟨some 26,.mov (.tmp 3),none⟩,
 ⟨some 27,.mov (.tmp 5),none⟩,
 ⟨some 28,.lkp none (.bool false) false (.tmp 26) (.tmp 27),none⟩,
 ⟨some 29,.call 65 [(.tmp 28),(.cst (.d (.int .i64 9)))],none⟩,
 ⟨some 30,.bsl 2 43 1 2 [(.int .i64 0),(.int .i64 0)] [(0,(.tmp 25)),(1,(.tmp 29))],none⟩,
 ⟨some 31,.call 26 [(.tmp 30)],none⟩,
 ⟨some 6,.mov (.tmp 31),none⟩] [(0,4),(1,4),(2,4),(3,4),(0,5),(1,5),(2,5),(3,5),(4,5),(0,6),(1,6),(2,6),(3,6)])
 (.seq
 (.reg [] [⟨some 32,.mov (.tmp 6),none⟩,
 ⟨some 33,.cmp .neq (.tmp 32) (.cst (.d (.int .i64 0))),none⟩])
 (.cond (.tmp 33)
 (.seq
 (.reg [] [⟨some 34,.mov (.tmp 6),none⟩,
 ⟨some 2,.mov (.tmp 34),none⟩])
 .ret)
 .skip)))
 (.reg [] [⟨some 35,.mov (.tmp 3),none⟩,
 ⟨some 36,.mov (.tmp 5),none⟩,
 ⟨none,.mpu none (.tmp 35) (.tmp 36) (.cst (.d (.bool true))),none⟩]))))
 (.reg [] [⟨some 37,.arith .add .i64 (.tmp 18) (.cst (.d (.int .i64 1))),none⟩,
 ⟨some 18,.mov (.tmp 37),none⟩]))))))))))
 (.seq
 (.seq
 (.reg [] [⟨some 38,.fad 1 (.tmp 1),none⟩,
 ⟨some 39,.ld false 1 (.tmp 38),none⟩,
 ⟨some 40,.len (.tmp 39),none⟩,
 ⟨some 41,.cmp .gtr (.tmp 40) (.cst (.d (.int .i64 128))),none⟩])
 (.cond (.tmp 41)
 (.seq
 (.reg [] [⟨some 2,.mov (.cst (.d (.int .i64 5))),none⟩])
 .ret)
 .skip))
 (.seq
 (.seq
 (.reg [] [⟨some 42,.fad 1 (.tmp 1),none⟩,
 ⟨some 43,.ld false 1 (.tmp 42),none⟩,
 ⟨some 44,.len (.tmp 43),none⟩,
 ⟨some 45,.mov (.cst (.d (.int .i64 0))),none⟩])
 (.post [] [0,1,2,3]
 (.block 2
 (.keep [1,43,44,45] [0,1,2]
 (.loop
 (.post [1,43,44,45] [3]
 (.seq
 (.reg [] [⟨some 46,.cmp .lss (.tmp 45) (.tmp 44),none⟩])
 (.seq
 (.cond (.tmp 46)
 .skip
 (.exit 2))
 (.seq
 (.block 3
 (.seq
 (.reg [3] [⟨some 47,.mov (.tmp 45),none⟩,
 ⟨some 48,.ixa 3 (.tmp 43) (.tmp 45),none⟩,
 ⟨some 49,.ld true 3 (.tmp 48),none⟩,
 ⟨some 8,.alloc 3 [(.d (.int .i64 0)),(.d (.int .i64 0)),(.d (.int .i64 0))],none⟩,
 ⟨some 7,.mov (.tmp 47),none⟩,
 ⟨none,.st 3 (.tmp 8) (.tmp 49),none⟩])
 (.seq
 (.regd [] [⟨some 50,.ld true 3 (.tmp 8),none⟩,
 ⟨some 51,.fad 0 (.tmp 1),none⟩,
 ⟨some 52,.ld false 1 (.tmp 51),none⟩,
 ⟨some 53,.len (.tmp 52),none⟩,
 ⟨some 54,.fad 1 (.tmp 1),none⟩,
 ⟨some 55,.ld false 1 (.tmp 54),none⟩,
 ⟨some 56,.mov (.tmp 7),none⟩,
 ⟨some 57,.slc 3 (.tmp 55) none (some (.tmp 56)),none⟩,
 ⟨some 58,.call 67 [(.tmp 50),(.tmp 53),(.tmp 57)],none⟩,
 ⟨some 9,.mov (.tmp 58),none⟩] [(0,1),(0,2),(0,3),(0,4),(1,4),(2,4),(3,4),(0,5),(1,5),(2,5),(3,5),(0,6),(1,6),(2,6),(3,6),(4,6),(5,6),(0,7),(1,7),(2,7),(3,7)])
 (.seq
 (.reg [] [⟨some 59,.mov (.tmp 9),none⟩,
 ⟨some 60,.cmp .neq (.tmp 59) (.cst (.d (.int .i64 0))),none⟩])
 (.cond (.tmp 60)
 (.seq
 (.reg [] [⟨some 61,.mov (.tmp 9),none⟩,
 ⟨some 2,.mov (.tmp 61),none⟩])
 .ret)
 .skip)))))
 (.reg [] [⟨some 62,.arith .add .i64 (.tmp 45) (.cst (.d (.int .i64 1))),none⟩,
 ⟨some 45,.mov (.tmp 62),none⟩]))))))))))
 (.seq
 (.reg [] [⟨some 2,.mov (.cst (.d (.int .i64 0))),none⟩])
 .ret)))))))⟩
theorem c94 (m:Ms) (l:Lk) (hl:m.ls.length≤1048576):CallDet Tryz.prog 49 [.d m.d,.d l.d] [.int .i64 (linkE m.ns.length m.ls l)]:=by
 have hlen:=lks_len m.ls
 refine call_of_vc (x:=ir94) (by kernel_rfl) rfl ?_
 have fin:∀ v:Int,linkE m.ns.length m.ls l=v→resV [.int .i64 v]=resV [.int .i64 (linkE m.ns.length m.ls l)]:=fun v h=>by rw [h]
 refine ca (c23 m l.a) ?_
 refine ca (c23 m l.b) ?_
 refine sd ?_
 refine ca (c49 _ _) ?_
 repeat refine sd ?_
 refine ca (c100 [m.nodeE l.a,m.nodeE l.b,bif decide (l.b≤l.a) then 11 else 0] (by simp)) ?_
 refine sd ?_
 refine b_intro (fun h=>?_) (fun h=>?_)
 ·have h:(outs m.ns.length l != 0)=true:=h
  exact fin (outs m.ns.length l) (by unfold linkE; rw [h]; rfl)
 have h:(outs m.ns.length l != 0)=false:=h
 have e0:linkE m.ns.length m.ls l=bif m.ls.any (fun o=>sameL o l) then 9 else within3 l.c 1 100:=by unfold linkE; rw [h]; rfl
 refine loop_st (fun k:Nat=>⟨[(2,.ptr 0 0),(3,.ptr 1 0),(6,.d (.int .i64 k))],[.cbox [.slice 1 (strs m.ns),.slice 3 (lks m.ls)],.cbox [.int .i64 l.a,.int .i64 l.b,.int .i64 l.c],.none]⟩)
  (fun k=>m.ls.any (fun o=>sameL o l)=(m.ls.drop k).any (fun o=>sameL o l)) (fun k=>m.ls.length - k) 0 rfl rfl ?_
 intro k hi
 refine sd ?_
 refine b_lt (fun h=>?_) (fun h=>?_)
 ·have h:(k:Int) < ((lks m.ls).length:Int):=h
  refine Exists.elim (get_lt m.ls (k:=k) (by omega)) fun o hx=>?_
  rw [drop_at hx,List.any_cons] at hi
  have yes:sameL o l=true→resV [.int .i64 9]=resV [.int .i64 (linkE m.ns.length m.ls l)]:=fun e=>fin 9 (by rw [e0,hi,e]; rfl)
  have no : sameL o l = false → ∃ r, (IntKind.i64 = IntKind.i64 ∧ IntKind.i64 = IntKind.i64 ∧ arithF .add .i64 (k : Int) 1 = some r) ∧
    ∃ a',(m.ls.any (fun o=>sameL o l)=(m.ls.drop a').any (fun o=>sameL o l)∧m.ls.length - a' < m.ls.length - k)∧(⟨[(2,.ptr 0 0),(3,.ptr 1 0),(6,.d (.int .i64 r))],[.cbox [.slice 1 (strs m.ns),.slice 3 (lks m.ls)],.cbox [.int .i64 l.a,.int .i64 l.b,.int .i64 l.c],.none]⟩:St)=⟨[(2,.ptr 0 0),(3,.ptr 1 0),(6,.d (.int .i64 (a':Nat)))],[.cbox [.slice 1 (strs m.ns),.slice 3 (lks m.ls)],.cbox [.int .i64 l.a,.int .i64 l.b,.int .i64 l.c],.none]⟩:=fun e=>by
   refine ar_add (by omega) ?_
   exact ⟨k+1,⟨by rw [hi,e]; rfl,by omega⟩,rfl⟩
  refine ix_at (lks_at hx) (by omega) ?_
  refine sd ?_
  refine b_eq (fun h1=>?_) (fun h1=>?_)
  ·have h1:o.a=l.a:=h1
   refine ix_at (lks_at hx) (by omega) ?_
   refine sd ?_
   refine b_eq (fun h2=>?_) (fun h2=>?_)
   ·have h2:o.b=l.b:=h2
    exact yes (by unfold sameL; rw [h1,h2]; simp)
   ·have h2:¬ o.b=l.b:=h2
    exact no (by unfold sameL; simp [h2])
  ·have h1:¬ o.a=l.a:=h1
   refine sd ?_
   exact no (by unfold sameL; simp [h1])
 ·have h:¬ (k:Int) < ((lks m.ls).length:Int):=h
  rw [List.drop_eq_nil_of_le (by omega)] at hi
  refine ca (c101 _ _ _) ?_
  exact fin _ (by rw [e0,hi]; rfl)
theorem c143 (o l:Lk):CallDet Tryz.prog 93 [.d o.d,.cp [.int .i64 l.a,.int .i64 l.b,.int .i64 l.c] 0] [.bool (sameL o l)]:=by
 refine call_of_vc (x:=ir143) (by kernel_rfl) rfl ?_
 refine ca (c123 o) ?_
 refine ca (c123 l) ?_
 refine Exists.intro _ (And.intro ⟨sameL o l,rfl,rfl⟩ ?_)
 exact rfl
def capL (l:Lk):List Data:=[.int .i64 l.a,.int .i64 l.b,.int .i64 l.c]
theorem c149g (ls : List Lk) (hl : ls.length ≤ 1048576) (f : Nat) (cs : List Data) (p : Lk → Bool) (hp : ∀ o ∈ ls, CallDet Tryz.prog f [.d o.d, .cp cs 0] [.bool (p o)]) :
  CallDet Tryz.prog 105 [.d (.slice 3 (lks ls)),.d (.fn (.func f) [.agg cs])] [.int .i64 (idxF p ls 0)]:=by
 have hlen:=lks_len ls
 refine call_of_vc (x:=ir149) (by kernel_rfl) rfl ?_
 have fin:∀ v:Int,idxF p ls 0=v→resV [.int .i64 v]=resV [.int .i64 (idxF p ls 0)]:=fun v h=>by rw [h]
 refine loop_st (fun k:Nat=>⟨[(0,.d (.slice 3 (lks ls))),(1,.d (.fn (.func f) [.agg cs])),(7,.d (.int .i64 ((lks ls).length:Int))),(8,.d (.int .i64 k))],[]⟩)
  (fun k=>idxF p ls 0=idxF p (ls.drop k) k) (fun k=>ls.length - k) 0 rfl rfl ?_
 intro k hi
 refine sd ?_
 refine b_lt (fun h=>?_) (fun h=>?_)
 ·have h:(k:Int) < ((lks ls).length:Int):=h
  refine Exists.elim (get_lt ls (k:=k) (by omega)) fun o hx=>?_
  rw [drop_at hx,idxF] at hi
  refine ix_at (lks_at hx) (by omega) ?_
  refine ca (hp o (List.mem_of_getElem? hx)) ?_
  refine b_intro (fun h2=>?_) (fun h2=>?_)
  ·have h2:p o=true:=h2
   exact fin _ (by rw [hi,h2]; rfl)
  ·have h2:p o=false:=h2
   refine ar_add (by omega) ?_
   exact ⟨k+1,⟨by rw [hi,h2]; rfl,by omega⟩,rfl⟩
 ·have h:¬ (k:Int) < ((lks ls).length:Int):=h
  rw [List.drop_eq_nil_of_le (by omega)] at hi
  exact fin _ hi
theorem c115g (ls : List Lk) (hl : ls.length ≤ 1048576) (f : Nat) (cs : List Data) (p : Lk → Bool) (hp : ∀ o ∈ ls, CallDet Tryz.prog f [.d o.d, .cp cs 0] [.bool (p o)]) :
  CallDet Tryz.prog 92 [.d (.slice 3 (lks ls)),.d (.fn (.func f) [.agg cs])] [.bool (ls.any p)]:=by
 refine call_of_vc (x:=ir115) (by kernel_rfl) rfl ?_
 refine ca (c149g ls hl f cs p hp) ?_
 refine sd ?_
 exact (congrArg (fun b=>resV [.bool b]) (idxF_ge p ls 0 (by omega)))
set_option maxHeartbeats 1000000 in
theorem c97 (l:Lk) (n:Int) (ls:List Lk) (hl:ls.length≤1048576):CallDet Tryz.prog 67 [.d l.d,.d (.int .i64 n),.d (.slice 3 (lks ls))] [.int .i64 (linkE n ls l)]:=by
 refine call_of_vc (x:=ir97) (by kernel_rfl) rfl ?_
 have fin:∀ v:Int,linkE n ls l=v→resV [.int .i64 v]=resV [.int .i64 (linkE n ls l)]:=fun v h=>by rw [h]
 have first:∀ x y:Bool,x=outN n l.a→y=outN n l.b→CallDet Tryz.prog 26 [.d (.slice 1 (ints [bif x then 10 else 0,bif y then 10 else 0,bif decide (l.b≤l.a) then 11 else 0]))] [.int .i64 (outs n l)]:=fun x y h1 h2=>by
  rw [h1,h2]
  exact c86 [bif outN n l.a then 10 else 0,bif outN n l.b then 10 else 0,bif decide (l.b≤l.a) then 11 else 0] (by simp)
 refine sd ?_
 refine b_lt (fun ha=>?_) (fun ha=>?_)
 ·have ha:l.a < 0:=ha
  refine sd ?_
  refine ca (c89 _ _) ?_
  refine sd ?_
  refine b_lt (fun hb=>?_) (fun hb=>?_)
  ·have hb:l.b < 0:=hb
   refine sd ?_
   refine ca (c89 _ _) ?_
   refine sd ?_
   refine ca (c89 _ _) ?_
   repeat refine sd ?_
   refine ca (first true true (by unfold outN; rw [decide_eq_true ha]; rfl) (by unfold outN; rw [decide_eq_true hb]; rfl)) ?_
   refine sd ?_
   refine b_intro (fun h=>?_) (fun h=>?_)
   ·have h:(outs n l != 0)=true:=h
    exact fin (outs n l) (by unfold linkE; rw [h]; rfl)
   have h:(outs n l != 0)=false:=h
   have e0:linkE n ls l=bif ls.any (fun o=>sameL o l) then 9 else within3 l.c 1 100:=by unfold linkE; rw [h]; rfl
   refine ca (c115g ls hl 93 (capL l) (fun o=>sameL o l) (fun o _=>c143 o l)) ?_
   refine ca (c89 _ _) ?_
   refine ca (c104 _ _ _) ?_
   repeat refine sd ?_
   refine ca (c86 [bif ls.any (fun o=>sameL o l) then 9 else 0,within3 l.c 1 100] (by simp)) ?_
   refine fin _ ?_
   rw [e0]
   cases ls.any (fun o=>sameL o l)
   ·show within3 l.c 1 100=bif within3 l.c 1 100 != 0 then within3 l.c 1 100 else 0
    rcases within3_or l.c 1 100 with e | e <;> rw [e] <;> rfl
   ·rfl
  ·have hb:¬ l.b < 0:=hb
   refine sd ?_
   refine ca (c89 _ _) ?_
   refine sd ?_
   refine ca (c89 _ _) ?_
   repeat refine sd ?_
   refine ca (first true (decide (n≤l.b)) (by unfold outN; rw [decide_eq_true ha]; rfl) (by unfold outN; rw [decide_eq_false hb]; rfl)) ?_
   refine sd ?_
   refine b_intro (fun h=>?_) (fun h=>?_)
   ·have h:(outs n l != 0)=true:=h
    exact fin (outs n l) (by unfold linkE; rw [h]; rfl)
   have h:(outs n l != 0)=false:=h
   have e0:linkE n ls l=bif ls.any (fun o=>sameL o l) then 9 else within3 l.c 1 100:=by unfold linkE; rw [h]; rfl
   refine ca (c115g ls hl 93 (capL l) (fun o=>sameL o l) (fun o _=>c143 o l)) ?_
   refine ca (c89 _ _) ?_
   refine ca (c104 _ _ _) ?_
   repeat refine sd ?_
   refine ca (c86 [bif ls.any (fun o=>sameL o l) then 9 else 0,within3 l.c 1 100] (by simp)) ?_
   refine fin _ ?_
   rw [e0]
   cases ls.any (fun o=>sameL o l)
   ·show within3 l.c 1 100=bif within3 l.c 1 100 != 0 then within3 l.c 1 100 else 0
    rcases within3_or l.c 1 100 with e | e <;> rw [e] <;> rfl
   ·rfl
 ·have ha:¬ l.a < 0:=ha
  refine sd ?_
  refine ca (c89 _ _) ?_
  refine sd ?_
  refine b_lt (fun hb=>?_) (fun hb=>?_)
  ·have hb:l.b < 0:=hb
   refine sd ?_
   refine ca (c89 _ _) ?_
   refine sd ?_
   refine ca (c89 _ _) ?_
   repeat refine sd ?_
   refine ca (first (decide (n≤l.a)) true (by unfold outN; rw [decide_eq_false ha]; rfl) (by unfold outN; rw [decide_eq_true hb]; rfl)) ?_
   refine sd ?_
   refine b_intro (fun h=>?_) (fun h=>?_)
   ·have h:(outs n l != 0)=true:=h
    exact fin (outs n l) (by unfold linkE; rw [h]; rfl)
   have h:(outs n l != 0)=false:=h
   have e0:linkE n ls l=bif ls.any (fun o=>sameL o l) then 9 else within3 l.c 1 100:=by unfold linkE; rw [h]; rfl
   refine ca (c115g ls hl 93 (capL l) (fun o=>sameL o l) (fun o _=>c143 o l)) ?_
   refine ca (c89 _ _) ?_
   refine ca (c104 _ _ _) ?_
   repeat refine sd ?_
   refine ca (c86 [bif ls.any (fun o=>sameL o l) then 9 else 0,within3 l.c 1 100] (by simp)) ?_
   refine fin _ ?_
   rw [e0]
   cases ls.any (fun o=>sameL o l)
   ·show within3 l.c 1 100=bif within3 l.c 1 100 != 0 then within3 l.c 1 100 else 0
    rcases within3_or l.c 1 100 with e | e <;> rw [e] <;> rfl
   ·rfl
  ·have hb:¬ l.b < 0:=hb
   refine sd ?_
   refine ca (c89 _ _) ?_
   refine sd ?_
   refine ca (c89 _ _) ?_
   repeat refine sd ?_
   refine ca (first (decide (n≤l.a)) (decide (n≤l.b)) (by unfold outN; rw [decide_eq_false ha]; rfl) (by unfold outN; rw [decide_eq_false hb]; rfl)) ?_
   refine sd ?_
   refine b_intro (fun h=>?_) (fun h=>?_)
   ·have h:(outs n l != 0)=true:=h
    exact fin (outs n l) (by unfold linkE; rw [h]; rfl)
   have h:(outs n l != 0)=false:=h
   have e0:linkE n ls l=bif ls.any (fun o=>sameL o l) then 9 else within3 l.c 1 100:=by unfold linkE; rw [h]; rfl
   refine ca (c115g ls hl 93 (capL l) (fun o=>sameL o l) (fun o _=>c143 o l)) ?_
   refine ca (c89 _ _) ?_
   refine ca (c104 _ _ _) ?_
   repeat refine sd ?_
   refine ca (c86 [bif ls.any (fun o=>sameL o l) then 9 else 0,within3 l.c 1 100] (by simp)) ?_
   refine fin _ ?_
   rw [e0]
   cases ls.any (fun o=>sameL o l)
   ·show within3 l.c 1 100=bif within3 l.c 1 100 != 0 then within3 l.c 1 100 else 0
    rcases within3_or l.c 1 100 with e | e <;> rw [e] <;> rfl
   ·rfl
theorem c22 (m:Ms) (hn:m.ns.length≤1048576) (hl:m.ls.length≤1048576):CallDet Tryz.prog 17 [.d m.d] [.int .i64 m.chk]:=by
 have hlen:=strs_len m.ns
 have hlen2:=lks_len m.ls
 refine call_of_vc (x:=ir22) (by kernel_rfl) rfl ?_
 have fin:∀ v:Int,m.chk=v→resV [.int .i64 v]=resV [.int .i64 m.chk]:=fun v h=>by rw [h]
 refine sd ?_
 refine b_lt (fun h=>?_) (fun h=>?_)
 ·have h:(32:Int) < ((strs m.ns).length:Int):=h
  exact fin 5 (chk_1 (by omega))
 have h:¬ (32:Int) < ((strs m.ns).length:Int):=h
 have h32:¬ (32:Int) < (m.ns.length:Int):=by omega
 refine loop_st (fun k:Nat=>⟨[(1,.ptr 0 0),(3,.d (.int .i64 k))],[.cbox [.slice 1 (strs m.ns),.slice 3 (lks m.ls)]]⟩)
  (fun k=>scanE nameE [] m.ns=scanE nameE (m.ns.take k) (m.ns.drop k)) (fun k=>m.ns.length - k) 0 rfl rfl ?_
 intro k hi
 refine sd ?_
 refine b_lt (fun h=>?_) (fun h=>?_)
 ·have h:(k:Int) < ((strs m.ns).length:Int):=h
  refine Exists.elim (get_lt m.ns (k:=k) (by omega)) fun x hx=>?_
  refine ix_at (strs_at hx) (by omega) ?_
  refine ca (c93 x) ?_
  refine b_intro (fun h2=>?_) (fun h2=>?_)
  ·have h2:(!(isNm x))=true:=h2
   have e:nameE (m.ns.take k) x=8:=by unfold nameE; rw [h2]; rfl
   exact fin 8 (chk_2 h32 ((scan_bad hi hx (by rw [e]; rfl)).trans e) rfl)
  have h2:(!(isNm x))=false:=h2
  have hc:CallDet Tryz.prog 48 [.d (.slice 1 (((strs m.ns).take ((k:Int)).toNat).drop ((0:Int)).toNat)),.d (.str x)] [.bool ((m.ns.take k).contains x)]:=by
   rw [take_strs]
   exact c82 (m.ns.take k) x (by rw [List.length_take]; omega)
  refine And.intro ⟨rfl,by omega,by omega,by omega⟩ ?_
  refine ix_at (strs_at hx) (by omega) ?_
  refine ca hc ?_
  refine b_intro (fun h3=>?_) (fun h3=>?_)
  ·have h3:(m.ns.take k).contains x=true:=h3
   have e:nameE (m.ns.take k) x=9:=by unfold nameE; rw [h2,h3]; rfl
   exact fin 9 (chk_2 h32 ((scan_bad hi hx (by rw [e]; rfl)).trans e) rfl)
  have h3:(m.ns.take k).contains x=false:=h3
  have e:nameE (m.ns.take k) x=0:=by unfold nameE; rw [h2,h3]; rfl
  refine ar_add (by omega) ?_
  exact ⟨k+1,⟨scan_ok hi hx (by rw [e]; rfl),by omega⟩,rfl⟩
 have h:¬ (k:Int) < ((strs m.ns).length:Int):=h
 have hnm:=scan_end hi (by omega)
 refine sd ?_
 refine b_lt (fun h=>?_) (fun h=>?_)
 ·have h:(128:Int) < ((lks m.ls).length:Int):=h
  exact fin 5 (chk_3 h32 hnm (by omega))
 have h:¬ (128:Int) < ((lks m.ls).length:Int):=h
 have h128:¬ (128:Int) < (m.ls.length:Int):=by omega
 refine loop_st (fun k:Nat=>⟨[(1,.ptr 0 0),(4,.d (.int .i64 k))],[.cbox [.slice 1 (strs m.ns),.slice 3 (lks m.ls)]]⟩)
  (fun k=>scanE (linkE m.ns.length) [] m.ls=scanE (linkE m.ns.length) (m.ls.take k) (m.ls.drop k)) (fun k=>m.ls.length - k) 0 rfl rfl ?_
 intro k hi
 refine sd ?_
 refine b_lt (fun h=>?_) (fun h=>?_)
 ·have h:(k:Int) < ((lks m.ls).length:Int):=h
  refine Exists.elim (get_lt m.ls (k:=k) (by omega)) fun x hx=>?_
  have hc:CallDet Tryz.prog 49 [.d (.agg [.slice 1 (strs m.ns),.slice 3 (((lks m.ls).take ((k:Int)).toNat).drop ((0:Int)).toNat)]),.d x.d] [.int .i64 (linkE m.ns.length (m.ls.take k) x)]:=by
   rw [take_lks]
   exact c94 ⟨m.ns,m.ls.take k⟩ x (by show (m.ls.take k).length≤1048576; rw [List.length_take]; omega)
  refine And.intro ⟨rfl,by omega,by omega,by omega⟩ ?_
  refine ix_at (lks_at hx) (by omega) ?_
  refine ca hc ?_
  refine sd ?_
  refine b_intro (fun h2=>?_) (fun h2=>?_)
  ·have h2:(linkE m.ns.length (m.ls.take k) x != 0)=true:=h2
   exact fin _ (chk_4 h32 hnm h128 (scan_bad hi hx h2))
  ·have h2:(linkE m.ns.length (m.ls.take k) x != 0)=false:=h2
   refine ar_add (by omega) ?_
   exact ⟨k+1,⟨scan_ok hi hx h2,by omega⟩,rfl⟩
 have h:¬ (k:Int) < ((lks m.ls).length:Int):=h
 exact fin 0 (chk_4 h32 hnm h128 (scan_end hi (by omega)))
def kmapN (l:List (List UInt8)) (k:Nat):List (Data × Data):=(l.take k).map fun n=>(.str n,.bool true)
set_option maxHeartbeats 1000000 in
theorem c27 (m:Ms) (hn:m.ns.length≤1048576) (hl:m.ls.length≤1048576):CallDet Tryz.prog 27 [.d m.d] [.int .i64 m.chk]:=by
 have hlen:=strs_len m.ns
 have hlen2:=lks_len m.ls
 refine call_of_vc (x:=ir27) (by kernel_rfl) rfl ?_
 have fin:∀ v:Int,m.chk=v→resV [.int .i64 v]=resV [.int .i64 m.chk]:=fun v h=>by rw [h]
 refine sd ?_
 refine b_lt (fun h=>?_) (fun h=>?_)
 ·have h:(32:Int) < ((strs m.ns).length:Int):=h
  exact fin 5 (chk_1 (by omega))
 have h:¬ (32:Int) < ((strs m.ns).length:Int):=h
 have h32:¬ (32:Int) < (m.ns.length:Int):=by omega
 refine loop_st (fun k:Nat=>⟨[(1,.ptr 0 0),(3,.mp 1),(16,.d (.slice 1 (strs m.ns))),(17,.d (.int .i64 ((strs m.ns).length:Int))),(18,.d (.int .i64 k))],[.cbox [.slice 1 (strs m.ns),.slice 3 (lks m.ls)],.mapo (kmapN m.ns k),.none,.none]⟩)
  (fun k=>scanE nameE [] m.ns=scanE nameE (m.ns.take k) (m.ns.drop k)) (fun k=>m.ns.length - k) 0 rfl rfl ?_
 intro k hi
 refine sd ?_
 refine b_lt (fun h=>?_) (fun h=>?_)
 ·have h:(k:Int) < ((strs m.ns).length:Int):=h
  refine Exists.elim (get_lt m.ns (k:=k) (by omega)) fun x hx=>?_
  have hf:findM (.str x) (kmapN m.ns k)=if (m.ns.take k).contains x then some (Data.bool true) else none:=findM_names _ _
  have hlk:(∃ y,findM (.str x) (kmapN m.ns k)=some y∧[Data.bool ((m.ns.take k).contains x),Data.bool ((m.ns.take k).contains x)]=[y,.bool true])∨(findM (.str x) (kmapN m.ns k)=none∧[Data.bool ((m.ns.take k).contains x),Data.bool ((m.ns.take k).contains x)]=[.bool false,.bool false]):=by
   rw [hf]
   rcases Bool.eq_false_or_eq_true ((m.ns.take k).contains x) with e | e
   ·rw [e]; exact .inl ⟨_,rfl,rfl⟩
   ·rw [e]; exact .inr ⟨rfl,rfl⟩
  refine ix_at (strs_at hx) (by omega) ?_
  refine ca (c96 x) ?_
  refine ca (c89 _ _) ?_
  refine Exists.intro [Data.bool ((m.ns.take k).contains x),Data.bool ((m.ns.take k).contains x)] (And.intro ⟨rfl,keys_names _,hlk⟩ ?_)
  refine ca (c89 _ _) ?_
  repeat refine sd ?_
  refine ca (c86 [bif !(isNm x) then 8 else 0,bif (m.ns.take k).contains x then 9 else 0] (by simp)) ?_
  repeat refine sd ?_
  refine b_intro (fun h2=>?_) (fun h2=>?_)
  ·have h2:(nameE (m.ns.take k) x != 0)=true:=h2
   exact fin _ (chk_2 h32 (scan_bad hi hx h2) h2)
  ·have h2:(nameE (m.ns.take k) x != 0)=false:=h2
   have hnew:(m.ns.take k).contains x=false:=by
    have h3:nameE (m.ns.take k) x=0:=by simpa using h2
    have h4:=firstOf_zero h3 (bif (m.ns.take k).contains x then 9 else 0) (by simp)
    rcases Bool.eq_false_or_eq_true ((m.ns.take k).contains x) with e | e
    ·rw [e] at h4; cases h4
    ·exact e
   refine And.intro ⟨rfl,keys_names _⟩ ?_
   refine ar_add (by omega) ?_
   have hp:putM (.str x) (.bool true) (kmapN m.ns k)=kmapN m.ns (k+1):=by
    unfold kmapN
    rw [putM_names _ _ hnew,take_one hx]
   refine ⟨k+1,⟨scan_ok hi hx h2,by omega⟩,?_⟩
   exact congrArg (fun q=>St.mk [(1,.ptr 0 0),(3,.mp 1),(16,.d (.slice 1 (strs m.ns))),(17,.d (.int .i64 ((strs m.ns).length:Int))),(18,.d (.int .i64 ((k:Int)+1)))] [.cbox [.slice 1 (strs m.ns),.slice 3 (lks m.ls)],.mapo q,.none,.none]) hp
 have h:¬ (k:Int) < ((strs m.ns).length:Int):=h
 have hnm:=scan_end hi (by omega)
 refine sd ?_
 refine b_lt (fun h=>?_) (fun h=>?_)
 ·have h:(128:Int) < ((lks m.ls).length:Int):=h
  exact fin 5 (chk_3 h32 hnm (by omega))
 have h:¬ (128:Int) < ((lks m.ls).length:Int):=h
 have h128:¬ (128:Int) < (m.ls.length:Int):=by omega
 refine loop_st (fun k:Nat=>⟨[(1,.ptr 0 0),(43,.d (.slice 3 (lks m.ls))),(44,.d (.int .i64 ((lks m.ls).length:Int))),(45,.d (.int .i64 k))],[.cbox [.slice 1 (strs m.ns),.slice 3 (lks m.ls)],.none,.none,.none]⟩)
  (fun k=>scanE (linkE m.ns.length) [] m.ls=scanE (linkE m.ns.length) (m.ls.take k) (m.ls.drop k)) (fun k=>m.ls.length - k) 0 rfl rfl ?_
 intro k hi
 refine sd ?_
 refine b_lt (fun h=>?_) (fun h=>?_)
 ·have h:(k:Int) < ((lks m.ls).length:Int):=h
  refine Exists.elim (get_lt m.ls (k:=k) (by omega)) fun x hx=>?_
  have hc:CallDet Tryz.prog 67 [.d x.d,.d (.int .i64 ((strs m.ns).length:Int)),.d (.slice 3 (((lks m.ls).take ((k:Int)).toNat).drop ((0:Int)).toNat))] [.int .i64 (linkE m.ns.length (m.ls.take k) x)]:=by
   rw [take_lks,hlen]
   exact c97 x _ (m.ls.take k) (by rw [List.length_take]; omega)
  refine ix_at (lks_at hx) (by omega) ?_
  refine And.intro ⟨rfl,by omega,by omega,by omega⟩ ?_
  refine ca hc ?_
  refine sd ?_
  refine b_intro (fun h2=>?_) (fun h2=>?_)
  ·have h2:(linkE m.ns.length (m.ls.take k) x != 0)=true:=h2
   exact fin _ (chk_4 h32 hnm h128 (scan_bad hi hx h2))
  ·have h2:(linkE m.ns.length (m.ls.take k) x != 0)=false:=h2
   refine ar_add (by omega) ?_
   exact ⟨k+1,⟨scan_ok hi hx h2,by omega⟩,rfl⟩
 have h:¬ (k:Int) < ((lks m.ls).length:Int):=h
 exact fin 0 (chk_4 h32 hnm h128 (scan_end hi (by omega)))
end Vc
set_option maxRecDepth 10000
namespace Vc
open Go Go.Proofs
theorem betw_rng {ls:List Lk} (h:∀ l∈ls,1≤l.c∧l.c≤100) (a b:Int):0≤betw ls a b∧betw ls a b≤100:=by
 induction ls with
 | nil=>exact ⟨Int.le_refl _,by show (0:Int)≤100; omega⟩
 | cons l r ih =>
  have h1:=h l List.mem_cons_self
  have h2:=ih (fun x hx=>h x (List.mem_cons_of_mem _ hx))
  rw [betw]
  cases hit l a b
  ·exact h2
  ·exact ⟨by show 0≤l.c; omega,by show l.c≤100; omega⟩
theorem Ms.fine.rng {m:Ms} (h:m.fine) (a b:Int):0≤betw m.ls a b∧betw m.ls a b≤100:=betw_rng (fun l hl=>(h.link hl).2) a b
def costG (m:Ms):Int→List Int→Int→Int × Int
 | _,[],s=>(s,0)
 | p,x::r,s=>bif betw m.ls p x==0 then (0,7) else costG m x r (s+betw m.ls p x)
def costE (m:Ms) (r:List Int):Int:=firstOf [bif (r.length:Int)==0 then 12 else 0,bif decide ((32:Int) < (r.length:Int)) then 5 else 0,firstOf (r.map m.nodeE)]
def Ms.cost (m:Ms) (r:List Int):Int × Int:=bif costE m r != 0 then (0,costE m r) else match r with
 | []=>(0,0)
 | p::r=>costG m p r 0
theorem firstOf_cons (a:Int) (l:List Int):firstOf (a::l)=bif a != 0 then a else firstOf l:=rfl
def ir90:AFun:=⟨22,2,[.tmp 4],
 (.seq
 (.reg [] [⟨some 4,.mov (.cst (.nils 1)),none⟩])
 (.seq
 (.reg [] [⟨some 5,.mov (.cst (.nils 1)),none⟩])
 (.seq
 (.seq
 (.reg [] [⟨some 8,.mov (.tmp 0),none⟩,
 ⟨some 9,.len (.tmp 8),none⟩,
 ⟨some 10,.mov (.cst (.d (.int .i64 0))),none⟩])
 (.post [5] [0,1]
 (.block 0
 (.asrow 1 43 1 5
 (.keep [1,5,8,9,10] []
 (.loop
 (.post [1,5,8,9,10] [0,1]
 (.seq
 (.reg [] [⟨some 11,.cmp .lss (.tmp 10) (.tmp 9),none⟩])
 (.seq
 (.cond (.tmp 11)
 .skip
 (.exit 0))
 (.seq
 (.block 1
 (.seq
 (.reg [] [⟨some 12,.ixa 1 (.tmp 8) (.tmp 10),none⟩,
 ⟨some 13,.ld false 1 (.tmp 12),none⟩,
 ⟨some 7,.mov (.tmp 13),none⟩])
 (.reg [0,1] [⟨some 14,.mov (.tmp 5),none⟩,
 ⟨some 15,.mov (.tmp 1),none⟩,
 ⟨some 16,.mov (.tmp 7),none⟩,
 ⟨some 17,.callv (.tmp 15) [(.tmp 16)],none⟩,
 ⟨some 18,.bsl 0 43 1 1 [(.int .i64 0)] [(0,(.tmp 17))],none⟩,
 ⟨some 19,.app 1 43 1 8 (.tmp 14) (.tmp 18),none⟩,
 ⟨some 5,.mov (.tmp 19),none⟩])))
 (.reg [] [⟨some 20,.arith .add .i64 (.tmp 10) (.cst (.d (.int .i64 1))),none⟩,
 ⟨some 10,.mov (.tmp 20),none⟩])))))))))))
 (.seq
 (.reg [] [⟨some 21,.mov (.tmp 5),none⟩,
 ⟨some 4,.mov (.tmp 21),none⟩])
 .ret))))⟩
def nodeD (m:Ms) (i:Int):Int:=firstOf [m.chk,m.nodeE i]
end Vc
set_option maxRecDepth 10000
namespace Vc
open Go Go.Proofs
def ir18:AFun:=⟨26,8,[.cell 2 2 true],
 (.seq
 (.reg [0,1] [⟨some 1,.cbx 0 2 (.tmp 0),none⟩,
 ⟨some 2,.alloc 1 [(.nils 1),(.nils 3)],none⟩])
 (.seq
 (.reg [2,3,4] [⟨some 6,.bsl 2 9 1 0 [] [],none⟩,
 ⟨some 7,.fad 0 (.tmp 1),none⟩,
 ⟨some 8,.ld false 1 (.tmp 7),none⟩,
 ⟨some 9,.app 3 9 1 16 (.tmp 6) (.tmp 8),none⟩,
 ⟨some 10,.build [(.nils 1),(.nils 3)] [(0,1,(.tmp 9))],none⟩,
 ⟨some 3,.alloc 4 [(.nils 1),(.nils 3)],none⟩,
 ⟨none,.st 2 (.tmp 3) (.tmp 10),none⟩])
 (.seq
 (.seq
 (.reg [] [⟨some 11,.fad 1 (.tmp 1),none⟩,
 ⟨some 12,.ld false 1 (.tmp 11),none⟩,
 ⟨some 13,.len (.tmp 12),none⟩,
 ⟨some 14,.mov (.cst (.d (.int .i64 0))),none⟩])
 (.post [2,3] [0,1,2,3,4,5,6,7]
 (.block 0
 (.keep [2,3,12,13,14] [0,1,2,3,4]
 (.loop
 (.post [2,3,12,13,14] [5,6,7]
 (.seq
 (.reg [] [⟨some 15,.cmp .lss (.tmp 14) (.tmp 13),none⟩])
 (.seq
 (.cond (.tmp 15)
 .skip
 (.exit 0))
 (.seq
 (.block 1
 (.seq
 (.reg [5] [⟨some 16,.ixa 3 (.tmp 12) (.tmp 14),none⟩,
 ⟨some 17,.ld true 3 (.tmp 16),none⟩,
 ⟨some 5,.alloc 5 [(.d (.int .i64 0)),(.d (.int .i64 0)),(.d (.int .i64 0))],none⟩,
 ⟨none,.st 3 (.tmp 5) (.tmp 17),none⟩])
 (.reg [6,7] [⟨some 18,.fad 1 (.tmp 3),none⟩,
 ⟨some 19,.ld false 1 (.tmp 18),none⟩,
 ⟨some 20,.ld true 3 (.tmp 5),none⟩,
 ⟨some 21,.bsl 6 106 3 1 [(.agg [(.int .i64 0),(.int .i64 0),(.int .i64 0)])] [(0,(.tmp 20))],none⟩,
 ⟨some 22,.app 7 106 3 24 (.tmp 19) (.tmp 21),none⟩,
 ⟨some 23,.fad 1 (.tmp 3),none⟩,
 ⟨none,.st 1 (.tmp 23) (.tmp 22),none⟩])))
 (.reg [] [⟨some 24,.arith .add .i64 (.tmp 14) (.cst (.d (.int .i64 1))),none⟩,
 ⟨some 14,.mov (.tmp 24),none⟩]))))))))))
 (.seq
 (.reg [] [⟨some 25,.ld true 2 (.tmp 3),none⟩,
 ⟨none,.st 2 (.tmp 2) (.tmp 25),none⟩])
 .ret))))⟩
def sGiven (m:Ms):Nat→St
 | 0=>⟨[(2,.ptr 1 0),(3,.ptr 4 0),(12,.d (.slice 3 (lks m.ls))),(13,.d (.int .i64 ((lks m.ls).length:Int))),(14,.d (.int .i64 (((0:Nat):Int))))],[.none,.box [.nils 1,.nils 3],.row 9 1 (strs m.ns) false,.none,.box [.sl 2 (strs m.ns).length,.nils 3],.none,.none,.none]⟩
 | k+1=>⟨[(2,.ptr 1 0),(3,.ptr 4 0),(12,.d (.slice 3 (lks m.ls))),(13,.d (.int .i64 ((lks m.ls).length:Int))),(14,.d (.int .i64 (((k+1:Nat):Int))))],[.none,.box [.nils 1,.nils 3],.row 9 1 (strs m.ns) false,.none,.box [.sl 2 (strs m.ns).length,.sl 7 (lks (m.ls.take (k+1))).length],.none,.none,.row 106 3 (lks (m.ls.take (k+1))) false]⟩
set_option maxHeartbeats 1000000 in
theorem c18 (m:Ms) (hn:m.ns.length≤1048576) (hl:m.ls.length≤1048576):CallDet Tryz.prog 8 [.d m.d] [m.d]:=by
 have hlen:=strs_len m.ns
 have hlen2:=lks_len m.ls
 refine call_of_vc (x:=ir18) (by kernel_rfl) rfl ?_
 repeat refine sd ?_
 refine And.intro ⟨rfl,rfl,rfl,?_,?_⟩ ?_
 ·show (0+(strs m.ns).length) * 16≤2 ^ 47
  omega
 ·show 0+(strs m.ns).length≤2 ^ 47
  omega
 repeat refine sd ?_
 refine loop_st (sGiven m) (fun k=>k≤m.ls.length) (fun k=>m.ls.length - k) 0 rfl (Nat.zero_le _) ?_
 intro k hk
 match k,hk with
 | 0,hk =>
  refine sd ?_
  refine b_lt (fun h=>?_) (fun h=>?_)
  ·have h:((0:Nat):Int) < ((lks m.ls).length:Int):=h
   refine Exists.elim (get_lt m.ls (k:=0) (by omega)) fun l hx=>?_
   have hb:=lks_len (m.ls.take (0))
   rw [List.length_take] at hb
   have e:lks (m.ls.take (0+1))=[l.d]:=by rw [take_one hx]; rfl
   refine ix_at (lks_at hx) (by omega) ?_
   repeat refine sd ?_
   refine And.intro ⟨?_,?_⟩ ?_
   ·show 1 * 24≤2 ^ 47
    omega
   ·show 1≤2 ^ 47
    omega
   repeat refine sd ?_
   refine ar_add (by omega) ?_
   refine ⟨0+1,⟨by show 0+1≤m.ls.length; omega,by show m.ls.length - (0+1) < m.ls.length - (0); omega⟩,?_⟩
   show _=(⟨[(2,.ptr 1 0),(3,.ptr 4 0),(12,.d (.slice 3 (lks m.ls))),(13,.d (.int .i64 ((lks m.ls).length:Int))),(14,.d (.int .i64 (((0+1:Nat):Int))))],[.none,.box [.nils 1,.nils 3],.row 9 1 (strs m.ns) false,.none,.box [.sl 2 (strs m.ns).length,.sl 7 (lks (m.ls.take (0+1))).length],.none,.none,.row 106 3 (lks (m.ls.take (0+1))) false]⟩:St)
   rw [e]; rfl
  ·have h:¬ ((0:Nat):Int) < ((lks m.ls).length:Int):=h
   have e:lks m.ls=[]:=by rw [List.eq_nil_of_length_eq_zero (show m.ls.length=0 by omega)]; rfl
   repeat refine sd ?_
   exact (congrArg (fun q=>resV [.agg [.slice 1 (strs m.ns),.slice 3 q]]) e).symm
 | k+1,hk =>
  refine sd ?_
  refine b_lt (fun h=>?_) (fun h=>?_)
  ·have h:((k+1:Nat):Int) < ((lks m.ls).length:Int):=h
   refine Exists.elim (get_lt m.ls (k:=k+1) (by omega)) fun l hx=>?_
   have hb:=lks_len (m.ls.take (k+1))
   rw [List.length_take] at hb
   have e:lks (m.ls.take (k+1+1))=lks (m.ls.take (k+1))++[l.d]:=by rw [take_one hx]; unfold lks; rw [List.map_append]; rfl
   refine ix_at (lks_at hx) (by omega) ?_
   repeat refine sd ?_
   refine And.intro ⟨rfl,rfl,rfl,?_,?_⟩ ?_
   ·show ((lks (m.ls.take (k+1))).length+1) * 24≤2 ^ 47
    omega
   ·show (lks (m.ls.take (k+1))).length+1≤2 ^ 47
    omega
   repeat refine sd ?_
   refine ar_add (by omega) ?_
   refine ⟨k+1+1,⟨by show k+1+1≤m.ls.length; omega,by show m.ls.length - (k+1+1) < m.ls.length - (k+1); omega⟩,?_⟩
   show _=(⟨[(2,.ptr 1 0),(3,.ptr 4 0),(12,.d (.slice 3 (lks m.ls))),(13,.d (.int .i64 ((lks m.ls).length:Int))),(14,.d (.int .i64 (((k+1+1:Nat):Int))))],[.none,.box [.nils 1,.nils 3],.row 9 1 (strs m.ns) false,.none,.box [.sl 2 (strs m.ns).length,.sl 7 (lks (m.ls.take (k+1+1))).length],.none,.none,.row 106 3 (lks (m.ls.take (k+1+1))) false]⟩:St)
   rw [e]; rfl
  ·have h:¬ ((k+1:Nat):Int) < ((lks m.ls).length:Int):=h
   have e:lks m.ls=lks (m.ls.take (k+1)):=by rw [List.take_of_length_le (by omega)]
   repeat refine sd ?_
   exact (congrArg (fun q=>resV [.agg [.slice 1 (strs m.ns),.slice 3 q]]) e).symm
end Vc
namespace Vc
theorem pigeon:∀ (n m:Nat) (w:Nat→Nat),(∀ i,i < m→w i < n)→(∀ i j,i < j→j < m→w i≠w j)→m≤n
 | 0,m,w,h,_=>by
  rcases Nat.eq_zero_or_pos m with e | e
  ·omega
  ·exact absurd (h 0 e) (Nat.not_lt_zero _)
 | n+1,m,w,h,hd=>by
  by_cases hx:∃ i,i < m∧w i=n
  ·obtain ⟨i,hi,e⟩:=hx
   have:=pigeon n (m - 1) (fun j=>if j < i then w j else w (j+1)) (fun j hj=>by
    show (if j < i then w j else w (j+1)) < n
    by_cases hji:j < i
    ·rw [if_pos hji]
     have h1:=h j (by omega)
     have h2:=hd j i hji hi
     omega
    ·rw [if_neg hji]
     have h1:=h (j+1) (by omega)
     have h2:=hd i (j+1) (by omega) (by omega)
     omega) (fun a b hab hb=>by
    show (if a < i then w a else w (a+1))≠(if b < i then w b else w (b+1))
    by_cases h1:a < i <;> by_cases h2:b < i
    ·rw [if_pos h1,if_pos h2]; exact hd a b hab (by omega)
    ·rw [if_pos h1,if_neg h2]; exact hd a (b+1) (by omega) (by omega)
    ·omega
    ·rw [if_neg h1,if_neg h2]; exact hd (a+1) (b+1) (by omega) (by omega))
   omega
  ·have := pigeon n m w (fun i hi => by
    have h1:=h i hi
    have h2:w i≠n:=fun e=>hx ⟨i,hi,e⟩
    omega) hd
   omega
structure En where
 nu:Int
 di:Int
 ne:Int
def En.bet (x o:En):Prop:=o.nu < x.nu∨(o.nu=x.nu∧x.di < o.di)
structure Waves (n:Nat) (off:Nat→Nat→Int→Prop) (X:Nat→Nat→En):Prop where
 step:∀ k v,v < n→X (k+1) v=X k v∨∃ u c,u < n∧off u v c∧(X k u).ne≠-1∧(X k u).di+c≤3200∧X (k+1) v=⟨(X k u).nu,(X k u).di+c,u⟩∧(X (k+1) v).bet (X k v)
 best:∀ k v u c,v < n→u < n→off u v c→(X k u).ne≠-1→(X k u).di+c≤3200→¬ (⟨(X k u).nu,(X k u).di+c,u⟩:En).bet (X (k+1) v)
 cost:∀ u v c,off u v c→1≤c
section
variable {n : Nat} {off : Nat → Nat → Int → Prop} {X : Nat → Nat → En} (h : Waves n off X)
include h
theorem Waves.up1 (k v:Nat) (hv:v < n):X (k+1) v=X k v∨(X (k+1) v).bet (X k v):=by
 rcases h.step k v hv with e | ⟨u,c,_,_,_,_,_,hb⟩
 ·exact .inl e
 ·exact .inr hb
theorem Waves.up {v:Nat} (hv:v < n) {i:Nat}:∀ {j:Nat},i≤j→X j v=X i v∨(X j v).bet (X i v)
 | 0, hij => by have : i = 0 := by omega
                subst this; exact .inl rfl
 | j+1,hij=>by
  rcases Nat.lt_or_ge j i with h1 | h1
  ·have:i=j+1:=by omega
   subst this; exact .inl rfl
  ·have ih:=Waves.up hv (i:=i) h1
   rcases h.up1 j v hv with e | hb
   ·rw [e]; exact ih
   ·right
    rcases ih with e | hb2
    ·rw [← e]; exact hb
    ·unfold En.bet at hb hb2 ⊢
     omega
theorem Waves.trace (k v:Nat) (hv:v < n) (hc:X (k+1) v≠X k v):∃ w:Nat→Nat,w (k+1)=v∧(∀ j,j≤k+1→w j < n)∧(∀ j,j≤k+1→(X j (w j)).nu=(X (k+1) v).nu)∧(∀ j,j≤k→(X j (w j)).di < (X (j+1) (w (j+1))).di):=by
 induction k generalizing v with
 | zero =>
  rcases h.step 0 v hv with e | ⟨u,c,hu,ho,hne,hcap,e,hb⟩
  ·exact absurd e hc
  ·have h1:=h.cost u v c ho
   refine ⟨fun j=>if j=0 then u else v,rfl,fun j _=>?_,fun j hj=>?_,fun j hj=>?_⟩
   ·show (if j=0 then u else v) < n
    split <;> assumption
   ·show (X j (if j=0 then u else v)).nu=_
    by_cases e0:j=0
    ·rw [if_pos e0,e0,e]
    ·have e1:j=1:=by omega
     rw [if_neg e0,e1]
   ·have e0:j=0:=by omega
    subst e0
    show (X 0 u).di < (X 1 v).di
    rw [e]
    show (X 0 u).di < (X 0 u).di+c
    omega
 | succ k ih =>
  rcases h.step (k+1) v hv with e | ⟨u,c,hu,ho,hne,hcap,e,hb⟩
  ·exact absurd e hc
  ·have h1:=h.cost u v c ho
   have hch:X (k+1) u≠X k u:=by
    intro es
    have:=h.best k v u c hv hu ho (by rw [← es]; exact hne) (by rw [← es]; exact hcap)
    rw [← es,← e] at this
    exact this hb
   obtain ⟨w,w1,w2,w3,w4⟩:=ih u hu hch
   refine ⟨fun j=>if j≤k+1 then w j else v,?_,fun j hj=>?_,fun j hj=>?_,fun j hj=>?_⟩
   ·show (if k+1+1≤k+1 then _ else v)=v
    rw [if_neg (by omega)]
   ·show (if j≤k+1 then w j else v) < n
    by_cases e0:j≤k+1
    ·rw [if_pos e0]; exact w2 j e0
    ·rw [if_neg e0]; exact hv
   ·show (X j (if j≤k+1 then w j else v)).nu=_
    by_cases e0:j≤k+1
    ·rw [if_pos e0,w3 j e0,e]
    ·have e1:j=k+1+1:=by omega
     rw [if_neg e0,e1]
   ·show (X j (if j≤k+1 then w j else v)).di < (X (j+1) (if j+1≤k+1 then w (j+1) else v)).di
    by_cases e0:j≤k
    ·rw [if_pos (by omega),if_pos (by omega)]; exact w4 j e0
    ·have e1:j=k+1:=by omega
     subst e1
     rw [if_pos (Nat.le_refl _),if_neg (by omega),w1,e]
     show (X (k+1) u).di < (X (k+1) u).di+c
     omega
theorem Waves.rest (k v:Nat) (hv:v < n) (hk:n≤k+1):X (k+1) v=X k v:=by
 apply Classical.byContradiction
 intro hc
 obtain ⟨w,w1,w2,w3,w4⟩:=h.trace k v hv hc
 have hdi:∀ i j,i < j→j≤k+1→(X i (w i)).di < (X j (w j)).di:=by
  intro i j hij
  induction j with
  | zero=>omega
  | succ j ih =>
   intro hj
   have h4:=w4 j (by omega)
   rcases Nat.lt_or_ge i j with h1 | h1
   ·have:=ih h1 (by omega)
    omega
   ·have:i=j:=by omega
    subst this; exact h4
 have:=pigeon n (k+2) w (fun i hi=>w2 i (by omega)) (fun i j hij hj=>by
  intro e
  have h1:=hdi i j hij (by omega)
  have h2:=w3 i (by omega)
  have h3:=w3 j (by omega)
  rw [← e] at h1 h3
  rcases h.up (w2 i (by omega)) (Nat.le_of_lt hij) with hu | hu
  ·rw [hu] at h1; omega
  ·unfold En.bet at hu
   omega)
 omega
end
end Vc
set_option maxRecDepth 10000
namespace Vc
theorem known_range (n:Nat) (g:Nat→Int):known ((List.range n).map g)=cnt n (fun i=>decide (0≤g i)):=by
 induction n with
 | zero=>rfl
 | succ n ih =>
  rw [List.range_succ,List.map_append]
  unfold known at ih ⊢
  rw [List.filter_append,List.length_append,ih]
  show _+(List.filter _ [g n]).length=cnt n _+(bif decide (0≤g n) then 1 else 0)
  by_cases e:0≤g n
  ·rw [List.filter_cons,decide_eq_true e]; rfl
  ·rw [List.filter_cons,decide_eq_false e]; rfl
theorem at0_range (n:Nat) (g:Nat→Int) (i:Nat):at0 ((List.range n).map g) i=if i < n then g i else -1:=by
 unfold at0
 rw [List.getElem?_map]
 by_cases h:i < n
 ·rw [if_pos h,List.getElem?_eq_getElem (by simpa using h),List.getElem_range]; rfl
 ·rw [if_neg h,List.getElem?_eq_none (by simp; omega)]; rfl
def told (n:Nat) (N1:Int) (Y:Nat→En):List Int:=(List.range n).map fun v=>if (Y v).nu=N1 then (Y v).di else -1
structure Beac (n f:Nat) (ls:List Lk) (N1:Int) (X:Nat→Nat→En):Prop where
 w:Waves n (fun u v c=>v≠f∧dir ls u v c) X
 fn:f < n
 n32:n≤32
 okIn:∀ l∈ls,l.okIn n
 co:X 0 f=⟨N1,0,f⟩
 old:∀ v,v < n→v≠f→(X 0 v).nu < N1
section
variable {n f : Nat} {ls : List Lk} {N1 : Int} {X : Nat → Nat → En} (h : Beac n f ls N1 X)
include h
theorem Beac.dirIn {u v:Nat} {c:Int} (hd:dir ls u v c):u < n∧v < n∧1≤c∧c≤100:=by
 obtain ⟨l,h1,rfl,h3⟩:=hd
 have h4:=h.okIn l h1
 rcases h3 with ⟨rfl,rfl⟩ | ⟨rfl,rfl⟩
 ·exact ⟨h4.na,h4.nb,h4.2.2.1,h4.2.2.2⟩
 ·exact ⟨h4.nb,h4.na,h4.2.2.1,h4.2.2.2⟩
theorem Beac.stay:∀ k,X k f=⟨N1,0,f⟩
 | 0=>h.co
 | k+1=>by
  rcases h.w.step k f h.fn with e | ⟨u,c,_,ho,_⟩
  ·rw [e]; exact Beac.stay k
  ·exact absurd rfl ho.1
theorem Beac.top:∀ k v,v < n→(X k v).nu≤N1
 | 0,v,hv=>by
  by_cases e:v=f
  ·subst e; rw [h.co]; exact Int.le_refl _
  ·have:=h.old v hv e; omega
 | k+1,v,hv=>by
  rcases h.w.step k v hv with e | ⟨u,c,hu,_,_,_,e,_⟩
  ·rw [e]; exact Beac.top k v hv
  ·rw [e]; exact Beac.top k u hu
theorem Beac.keep {k u:Nat} (hu:u < n) (hn:(X k u).nu=N1):(X (k+1) u).nu=N1∧(X (k+1) u).di≤(X k u).di:=by
 have ht:=h.top (k+1) u hu
 rcases h.w.up1 k u hu with e | hb
 ·rw [e]; exact ⟨hn,Int.le_refl _⟩
 ·unfold En.bet at hb; omega
theorem Beac.from:∀ k v,v < n→(X k v).nu=N1→0≤(X k v).di∧(X k v).di≤3200∧(X k v).ne≠-1∧(v=f∨∃ (u:Nat) (c:Int),dir ls u v c∧(X k v).ne=(u:Int)∧(X k u).nu=N1∧(X k u).di+c≤(X k v).di)
 | 0,v,hv,hn=>by
  by_cases e:v=f
  ·subst e; rw [h.co]; exact ⟨Int.le_refl _,by show (0:Int)≤3200; decide,by show (v:Int)≠-1; omega,.inl rfl⟩
  ·have:=h.old v hv e; omega
 | k+1,v,hv,hn=>by
  rcases h.w.step k v hv with e | ⟨u,c,hu,ho,hne,hcap,e,_⟩
  ·rw [e] at hn ⊢
   obtain ⟨h1,h2,h3,h4⟩:=Beac.from k v hv hn
   refine ⟨h1,h2,h3,h4.imp id ?_⟩
   rintro ⟨u,c,h5,h6,h7,h8⟩
   have:=h.keep (h.dirIn h5).1 h7
   exact ⟨u,c,h5,h6,this.1,by omega⟩
  ·rw [e] at hn ⊢
   have hn:(X k u).nu=N1:=hn
   obtain ⟨h1,h2,h3,h4⟩:=Beac.from k u hu hn
   have hc:=(h.dirIn ho.2).2.2
   have hk:=h.keep hu hn
   refine ⟨by show 0≤(X k u).di+c; omega,hcap,by show (u:Int)≠-1; omega,.inr ⟨u,c,ho.2,rfl,hk.1,?_⟩⟩
   show (X (k+1) u).di+c≤(X k u).di+c
   omega
structure Beac.Rest (_:Beac n f ls N1 X) (K:Nat):Prop where
 fix:∀ v,v < n→X (K+1) v=X K v
variable {K : Nat} (hr : ∀ v, v < n → X (K + 1) v = X K v)
include hr
theorem Beac.tri {u v:Nat} {c:Int} (hd:dir ls u v c) (hv:v≠f) (hn:(X K u).nu=N1) (hcap:(X K u).di+c≤3200):(X K v).nu=N1∧(X K v).di≤(X K u).di+c:=by
 obtain ⟨hu,hvn,_⟩:=h.dirIn hd
 have hb:=h.w.best K v u c hvn hu ⟨hv,hd⟩ (h.from K u hu hn).2.2.1 hcap
 rw [hr v hvn] at hb
 have ht:=h.top K v hvn
 unfold En.bet at hb
 have hb:¬ ((X K v).nu < (X K u).nu∨((X K v).nu=(X K u).nu∧(X K u).di+c < (X K v).di)):=hb
 omega
omit hr in
theorem Beac.at_D (i:Nat):at0 (told n N1 (X K)) i=if i < n then (if (X K i).nu=N1 then (X K i).di else -1) else -1:=at0_range n _ i
omit hr in
theorem Beac.at_nn {i:Nat} (h0:0≤at0 (told n N1 (X K)) i):i < n∧(X K i).nu=N1∧at0 (told n N1 (X K)) i=(X K i).di:=by
 rw [h.at_D] at h0 ⊢
 by_cases h1:i < n
 ·rw [if_pos h1] at h0 ⊢
  by_cases h2:(X K i).nu=N1
  ·rw [if_pos h2] at h0 ⊢; exact ⟨h1,h2,rfl⟩
  ·rw [if_neg h2] at h0; omega
 ·rw [if_neg h1] at h0; omega
omit hr in
theorem Beac.at_of {i:Nat} (hi:i < n) (hn:(X K i).nu=N1):at0 (told n N1 (X K)) i=(X K i).di:=by
 rw [h.at_D,if_pos hi,if_pos hn]
theorem Beac.small:∀ (r v:Nat),v < n→(X K v).nu=N1→rankD n (told n N1 (X K)) v≤r→(X K v).di≤100 * (rankD n (told n N1 (X K)) v:Int):=by
 intro r
 induction r with
 | zero =>
  intro v hv hn hrk
  obtain ⟨h1,h2,_,h4⟩:=h.from K v hv hn
  rcases h4 with rfl | ⟨u,c,h5,h6,h7,h8⟩
  ·rw [h.stay K]; show (0:Int)≤_; omega
  ·obtain ⟨hu,_,hc,_⟩:=h.dirIn h5
   have hu0:=(h.from K u hu h7).1
   have eu:=h.at_of hu h7
   have ev:=h.at_of hv hn
   have:=rank_lt (D:=told n N1 (X K)) (u:=u) (v:=v) hu (by omega) (by omega)
   omega
 | succ r ih =>
  intro v hv hn hrk
  obtain ⟨h1,h2,_,h4⟩:=h.from K v hv hn
  by_cases ef:v=f
  ·subst ef; rw [h.stay K]; show (0:Int)≤_; omega
  ·rcases h4 with e | ⟨u,c,h5,h6,h7,h8⟩
   ·exact absurd e ef
   ·obtain ⟨hu,_,hc,hc2⟩:=h.dirIn h5
    have hu0:=(h.from K u hu h7).1
    have eu:=h.at_of hu h7
    have ev:=h.at_of hv hn
    have hlt:=rank_lt (D:=told n N1 (X K)) (u:=u) (v:=v) hu (by omega) (by omega)
    have hi:=ih u hu h7 (by omega)
    have ht:=h.tri hr h5 ef h7 (by omega)
    omega
theorem Beac.ok:DOk n f (told n N1 (X K)):=by
 have hkn:known (told n N1 (X K))=cnt n (fun i=>decide (0≤at0 (told n N1 (X K)) i)):=by
  unfold told
  rw [known_range]
  apply Nat.le_antisymm <;> refine cnt_le (fun i hi hp=>?_)
  ·rw [decide_eq_true_eq] at hp ⊢
   rw [at0_range,if_pos hi]; exact hp
  ·rw [decide_eq_true_eq] at hp ⊢
   rw [at0_range,if_pos hi] at hp; exact hp
 have hz:at0 (told n N1 (X K)) f=0:=by
  rw [h.at_of h.fn (by rw [h.stay K]),h.stay K]
 have hrank:∀ v,v < n→0≤at0 (told n N1 (X K)) v→rankD n (told n N1 (X K)) v < known (told n N1 (X K)):=fun v hv h0=>by
  rw [hkn]
  exact cnt_lt (fun i _ hp=>by
   unfold near at hp
   rw [Bool.and_eq_true] at hp
   exact hp.1) hv (near_self _ v) (decide_eq_true h0)
 have h1:=hrank f h.fn (by omega)
 refine ⟨by unfold told; simp,h.n32,h.fn,⟨fun i=>?_,by omega⟩,hz,fun i hi=>?_⟩
 ·by_cases h0:0≤at0 (told n N1 (X K)) i
  ·obtain ⟨ha,hb,hc⟩:=h.at_nn h0
   have hs:=h.small hr _ i ha hb (Nat.le_refl _)
   have:=hrank i ha h0
   omega
  ·omega
 ·rw [h.at_D] at hi ⊢
  by_cases h1:i < n
  ·rw [if_pos h1] at hi ⊢
   by_cases h2:(X K i).nu=N1
   ·rw [if_pos h2] at hi
    have:=(h.from K i h1 h2).1
    omega
   ·rw [if_neg h2]
  ·rw [if_neg h1]
theorem Beac.step_D {u v:Nat} {c:Int} (hd:dir ls u v c):bett (told n N1 (X K)) u v c=false:=by
 rw [← Bool.not_eq_true,bett_iff]
 rintro ⟨h0,h1⟩
 obtain ⟨ha,hb,hc⟩:=h.at_nn h0
 obtain ⟨_,hv,hc1,hc2⟩:=h.dirIn hd
 by_cases ef:v=f
 ·subst ef
  have:=(h.ok hr).zero
  omega
 ·have hs:=h.small hr _ u ha hb (Nat.le_refl _)
  have hk:=rank_top (D:=told n N1 (X K)) ha
  have hn:=h.n32
  have ht:=h.tri hr hd ef hb (by omega)
  have hv0:=(h.from K v hv ht.1).1
  have ev:=h.at_of hv ht.1
  omega
theorem Beac.dist:passes ls (n - 1) (start n f)=told n N1 (X K):=by
 have hok:=h.ok hr
 refine settled_all h.n32 h.fn h.okIn hok ?_ ?_ ?_
 ·intro l hl
  exact ⟨h.step_D hr ⟨l,hl,rfl,.inl ⟨rfl,rfl⟩⟩,h.step_D hr ⟨l,hl,rfl,.inr ⟨rfl,rfl⟩⟩⟩
 ·intro i hi h0
  obtain ⟨ha,hb,hc⟩:=h.at_nn h0
  rcases (h.from K i ha hb).2.2.2 with e | ⟨u,c,h5,h6,h7,h8⟩
  ·exact absurd e hi
  ·have hu:=(h.dirIn h5).1
   have eu:=h.at_of hu h7
   have hu0:=(h.from K u hu h7).1
   exact ⟨u,c,h5,by omega,by omega⟩
 ·intro i
  rw [at0_start h.fn]
  by_cases e:i=f
  ·rw [if_pos e,e,hok.zero]; exact Int.le_refl _
  ·rw [if_neg e]
   have h1:=hok.low i
   show lev _≤(1000000:Int)
   unfold lev
   split <;> omega
theorem Beac.next {v:Nat} (hv:v < n) (hn:(X K v).nu=N1) (ef:v≠f):∃ (u:Nat) (c:Int),u < n∧dir ls u v c∧(X K v).ne=(u:Int)∧(X K u).nu=N1∧(X K v).di=(X K u).di+c:=by
 rcases (h.from K v hv hn).2.2.2 with e | ⟨u,c,h5,h6,h7,h8⟩
 ·exact absurd e ef
 ·have h2:=(h.from K v hv hn).2.1
  have ht:=h.tri hr h5 ef h7 (by omega)
  exact ⟨u,c,(h.dirIn h5).1,h5,h6,h7,by omega⟩
end
end Vc
namespace Vc
theorem list_ext0 {n:Nat} {d e:List Int} (hd:d.length=n) (he:e.length=n) (h:∀ i,i < n→at0 d i=at0 e i):d=e:=by
 apply List.ext_getElem (by omega)
 intro i h1 h2
 have:=h i (by omega)
 unfold at0 at this
 rw [List.getElem?_eq_getElem h1,List.getElem?_eq_getElem h2] at this
 simpa using this
def stepS (q:Int→Bool) (r:Int) (s:List Int × List Int) (k:Int):List Int × List Int:=bif decide (0≤at0 s.1 k.toNat)||!(q k) then s else (s.1.set k.toNat r,s.2++[k])
structure Sent (n:Nat) (r:Int) (hit:Nat→Prop) (d:List Int) (nx:List Int) (s:List Int × List Int):Prop where
 len:s.1.length=n
 yes:∀ i,i < n→at0 d i < 0→hit i→at0 s.1 i=r
 no:∀ i,i < n→¬ (at0 d i < 0∧hit i)→at0 s.1 i=at0 d i
 mem:∀ i,i∈s.2↔i∈nx∨(0≤i∧i < (n:Int)∧at0 d i.toNat < 0∧hit i.toNat)
 cnt:s.2.length+known d=nx.length+known s.1
theorem Sent.id {n:Nat} {r:Int} {d:List Int} (hd:d.length=n) (nx:List Int) {hit:Nat→Prop} (h:∀ i,i < n→at0 d i < 0→¬ hit i):Sent n r hit d nx (d,nx) :=
 ⟨hd,fun i hi h1 h2=>absurd h2 (h i hi h1),fun _ _ _=>rfl,fun i=>⟨.inl,fun hh=>hh.elim _root_.id fun ⟨h0,h1,h2,h3⟩=>absurd h3 (h i.toNat (by omega) h2)⟩,rfl⟩
theorem Sent.then {n : Nat} {r : Int} (hr : 0 ≤ r) {h1 h2 h3 : Nat → Prop} {d nx : List Int} {s t : List Int × List Int} (a : Sent n r h1 d nx s) (b : Sent n r h2 s.1 s.2 t)
  (h:∀ i,i < n→at0 d i < 0→(h3 i↔h1 i∨h2 i)):Sent n r h3 d nx t:=by
 have hno:∀ i,i < n→at0 d i < 0→¬ h1 i→at0 s.1 i < 0:=fun i hi hd hn=>by rw [a.no i hi (fun x=>hn x.2)]; exact hd
 have hyes:∀ i,i < n→at0 d i < 0→h1 i→¬ at0 s.1 i < 0:=fun i hi hd hn=>by rw [a.yes i hi hd hn]; omega
 refine ⟨b.len,fun i hi hd hh=>?_,fun i hi hh=>?_,fun i=>?_,?_⟩
 ·by_cases hx:h1 i
  ·rw [b.no i hi (fun x=>hyes i hi hd hx x.1),a.yes i hi hd hx]
  ·exact b.yes i hi (hno i hi hd hx) (((h i hi hd).1 hh).resolve_left hx)
 ·by_cases hd:at0 d i < 0
  ·have hn:¬ h3 i:=fun x=>hh ⟨hd,x⟩
   have ha:¬ h1 i:=fun x=>hn ((h i hi hd).2 (.inl x))
   have hb:¬ h2 i:=fun x=>hn ((h i hi hd).2 (.inr x))
   rw [b.no i hi (fun x=>hb x.2),a.no i hi (fun x=>ha x.2)]
  ·have e:=a.no i hi (fun x=>hd x.1)
   rw [b.no i hi (fun x=>hd (by rw [e] at x; exact x.1)),e]
 ·rw [b.mem,a.mem]
  constructor
  ·rintro ((hx | ⟨h0,hn,hd,hh⟩) | ⟨h0,hn,hd,hh⟩)
   ·exact .inl hx
   ·exact .inr ⟨h0,hn,hd,(h _ (by omega) hd).2 (.inl hh)⟩
   ·by_cases hd0:at0 d i.toNat < 0
    ·exact .inr ⟨h0,hn,hd0,(h _ (by omega) hd0).2 (.inr hh)⟩
    ·rw [a.no _ (by omega) (fun x=>hd0 x.1)] at hd
     exact absurd hd hd0
  ·rintro (hx | ⟨h0,hn,hd,hh⟩)
   ·exact .inl (.inl hx)
   ·by_cases hx:h1 i.toNat
    ·exact .inl (.inr ⟨h0,hn,hd,hx⟩)
    ·exact .inr ⟨h0,hn,hno _ (by omega) hd hx,((h _ (by omega) hd).1 hh).resolve_left hx⟩
 ·have:=a.cnt
  have:=b.cnt
  omega
theorem sent_one {n : Nat} {r : Int} (hr : 0 ≤ r) {q : Int → Bool} {d : List Int} (hd : d.length = n) (nx : List Int) {k : Int} (hk : 0 ≤ k ∧ k < (n : Int)) :
  Sent n r (fun i=>(i:Int)=k∧q k=true) d nx (stepS q r (d,nx) k):=by
 have hkn:k.toNat < n:=by omega
 unfold stepS
 by_cases h1:0≤at0 d k.toNat
 ·rw [decide_eq_true h1]
  refine Sent.id hd nx fun i hi hdi hh=>?_
  have:i=k.toNat:=by omega
  subst this; omega
 ·rw [decide_eq_false h1]
  cases hq:q k
  ·refine Sent.id hd nx fun i hi hdi hh=>?_
   cases hh.2
  ·show Sent n r _ d nx (d.set k.toNat r,nx++[k])
   have hks:=known_set d k.toNat r (by omega) hr
   refine ⟨by rw [List.length_set]; exact hd,fun i hi hdi hh=>?_,fun i hi hh=>?_,fun i=>?_,?_⟩
   ·rw [at0_set (by omega),if_pos (by omega)]
   ·rw [at0_set (by omega)]
    by_cases e:i=k.toNat
    ·exact absurd ⟨by rw [e]; omega,by omega,rfl⟩ hh
    ·rw [if_neg e]
   ·show i∈nx++[k]↔_
    rw [List.mem_append,List.mem_singleton]
    constructor
    ·rintro (hx | rfl)
     ·exact .inl hx
     ·exact .inr ⟨hk.1,hk.2,by omega,by omega,rfl⟩
    ·rintro (hx | ⟨h0,hn,hdi,hh,_⟩)
     ·exact .inl hx
     ·exact .inr (by omega)
   ·show (nx++[k]).length+known d=nx.length+known (d.set k.toNat r)
    rw [List.length_append,hks.2 (by omega)]
    show nx.length+1+known d=_
    omega
theorem sent_list {n : Nat} {r : Int} (hr : 0 ≤ r) {q : Int → Bool} : ∀ (L : List Int) {d : List Int} (_ : d.length = n) (nx : List Int) (_ : ∀ k ∈ L, 0 ≤ k ∧ k < (n : Int)),
  Sent n r (fun i=>(i:Int)∈L∧q i=true) d nx (L.foldl (stepS q r) (d,nx))
 | [],d,hd,nx,_=>Sent.id hd nx fun i _ _ hh=>by cases hh.1
 | k::L,d,hd,nx,hL=>by
  have h1:=sent_one hr (q:=q) hd nx (hL k (by simp))
  have h2:=sent_list hr (q:=q) L h1.len (stepS q r (d,nx) k).2 (fun x hx=>hL x (by simp [hx]))
  refine h1.then hr h2 fun i hi hdi=>?_
  constructor
  ·rintro ⟨hm,hq⟩
   rcases List.mem_cons.1 hm with e | hm
   ·exact .inl ⟨e,by rw [← e]; exact hq⟩
   ·exact .inr ⟨hm,hq⟩
  ·rintro (⟨e,hq⟩ | ⟨hm,hq⟩)
   ·exact ⟨by rw [e]; simp,by rw [e]; exact hq⟩
   ·exact ⟨by simp [hm],hq⟩
def sendP (nb:Int→List Int) (qq:Int→Int→Bool) (r:Int) (s:List Int × List Int) (a:Int):List Int × List Int:=(nb a).foldl (stepS (qq a) r) s
theorem sent_all {n : Nat} {r : Int} (hr : 0 ≤ r) {nb : Int → List Int} {qq : Int → Int → Bool} (hnb : ∀ a, ∀ k ∈ nb a, 0 ≤ k ∧ k < (n : Int)) : ∀ (P : List Int) {d : List Int} (_ : d.length = n) (nx : List Int),
  Sent n r (fun i=>∃ a∈P,(i:Int)∈nb a∧qq a i=true) d nx (P.foldl (sendP nb qq r) (d,nx))
 | [],d,hd,nx=>Sent.id hd nx fun i _ _ hh=>by obtain ⟨a,ha,_⟩:=hh; cases ha
 | a::P,d,hd,nx=>by
  have h1:=sent_list hr (q:=qq a) (nb a) hd nx (hnb a)
  have h2:=sent_all hr (qq:=qq) hnb P h1.len (sendP nb qq r (d,nx) a).2
  refine h1.then hr h2 fun i hi hdi=>?_
  constructor
  ·rintro ⟨x,hx,hh⟩
   rcases List.mem_cons.1 hx with e | hx
   ·subst e; exact .inl hh
   ·exact .inr ⟨x,hx,hh⟩
  ·rintro (hh | ⟨x,hx,hh⟩)
   ·exact ⟨a,by simp,hh⟩
   ·exact ⟨x,by simp [hx],hh⟩
def lvl (n:Nat) (g:Nat→Nat→Bool) (f:Nat):Nat→Nat→Int
 | 0,i=>if i=f then 0 else -1
 | k+1,i=>if lvl n g f k i < 0∧(List.range n).any (fun a=>decide (lvl n g f k a=k)&&g a i)=true then ((k+1:Nat):Int) else lvl n g f k i
def lvls (n:Nat) (g:Nat→Nat→Bool) (f k:Nat):List Int:=(List.range n).map (lvl n g f k)
section
variable {n : Nat} {g : Nat → Nat → Bool} {f : Nat}
theorem lvls_len (k:Nat):(lvls n g f k).length=n:=by unfold lvls; rw [List.length_map,List.length_range]
theorem lvls_at {k i:Nat} (hi:i < n):at0 (lvls n g f k) i=lvl n g f k i:=by unfold lvls; rw [at0_range,if_pos hi]
theorem lvl_rng:∀ (k i:Nat),-1≤lvl n g f k i∧lvl n g f k i≤k
 | 0,i=>by unfold lvl; split <;> omega
 | k+1,i=>by
  have:=lvl_rng k i
  unfold lvl; split <;> omega
theorem lvls_zero (hf:f < n):lvls n g f 0=start n f:=by
 refine list_ext0 (n:=n) (lvls_len 0) (by unfold start; rw [List.length_set,List.length_replicate]) fun i hi=>?_
 rw [lvls_at hi,at0_start hf]; rfl
def hitR (n:Nat) (g:Nat→Nat→Bool) (f k:Nat) (i:Nat):Prop:=∃ a,a < n∧lvl n g f k a=k∧g a i=true
theorem hitR_iff {k i:Nat}:(List.range n).any (fun a=>decide (lvl n g f k a=k)&&g a i)=true↔hitR n g f k i:=by
 rw [List.any_eq_true]
 constructor
 ·rintro ⟨a,ha,h⟩
  rw [Bool.and_eq_true] at h
  exact ⟨a,List.mem_range.1 ha,of_decide_eq_true h.1,h.2⟩
 ·rintro ⟨a,ha,h1,h2⟩
  exact ⟨a,List.mem_range.2 ha,by rw [decide_eq_true h1,h2]; rfl⟩
theorem lvl_hit {k i:Nat} (h:lvl n g f k i < 0) (hh:hitR n g f k i):lvl n g f (k+1) i=((k+1:Nat):Int):=by
 rw [lvl,if_pos ⟨h,hitR_iff.2 hh⟩]
theorem lvl_miss {k i:Nat} (h:¬ (lvl n g f k i < 0∧hitR n g f k i)):lvl n g f (k+1) i=lvl n g f k i:=by
 rw [lvl,if_neg (fun x=>h ⟨x.1,hitR_iff.1 x.2⟩)]
theorem lvl_keep {k i:Nat} (h:0≤lvl n g f k i):lvl n g f (k+1) i=lvl n g f k i:=lvl_miss (fun x=>by omega)
theorem round_is {k:Nat} {d:List Int} (hd:d=lvls n g f k) {nx:List Int} {s:List Int × List Int} {hit:Nat→Prop} (h:Sent n ((k+1:Nat):Int) hit d nx s) (hh:∀ i,i < n→(hit i↔hitR n g f k i)):s.1=lvls n g f (k+1):=by
 refine list_ext0 h.len (lvls_len _) fun i hi=>?_
 have ei:at0 d i=lvl n g f k i:=by rw [hd,lvls_at hi]
 rw [lvls_at hi]
 by_cases h1:lvl n g f k i < 0∧hitR n g f k i
 ·rw [h.yes i hi (by omega) ((hh i hi).2 h1.2),lvl_hit h1.1 h1.2]
 ·rw [h.no i hi (fun x=>h1 ⟨by omega,(hh i hi).1 x.2⟩),lvl_miss h1,ei]
theorem round_mem {k : Nat} {d : List Int} (hd : d = lvls n g f k) {s : List Int × List Int} {hit : Nat → Prop} (h : Sent n ((k + 1 : Nat) : Int) hit d [] s) (hh : ∀ i, i < n → (hit i ↔ hitR n g f k i)) (i : Int) :
  i∈s.2↔0≤i∧i < (n:Int)∧lvl n g f (k+1) i.toNat=((k+1:Nat):Int):=by
 rw [h.mem]
 constructor
 ·rintro (hx | ⟨h0,hn,hdi,hit⟩)
  ·cases hx
  ·rw [hd,lvls_at (by omega)] at hdi
   exact ⟨h0,hn,lvl_hit hdi ((hh _ (by omega)).1 hit)⟩
 ·rintro ⟨h0,hn,e⟩
  have hr:=lvl_rng (n:=n) (g:=g) (f:=f) k i.toNat
  by_cases h1:lvl n g f k i.toNat < 0∧hitR n g f k i.toNat
  ·exact .inr ⟨h0,hn,by rw [hd,lvls_at (by omega)]; exact h1.1,(hh _ (by omega)).2 h1.2⟩
  ·rw [lvl_miss h1] at e; omega
end
def floodP (n:Nat) (nb:Int→List Int) (qq:Int→Int→Bool) (f:Nat):Nat→List Int × List Int
 | 0=>(start n f,[(f:Int)])
 | k+1=>(floodP n nb qq f k).2.foldl (sendP nb qq ((k+1:Nat):Int)) ((floodP n nb qq f k).1,[])
section
variable {n : Nat} {nb : Int → List Int} {qq : Int → Int → Bool} {f : Nat}
def gP (nb:Int→List Int) (qq:Int→Int→Bool) (a b:Nat):Bool:=(nb a).contains (b:Int)&&qq a b
structure PIs (n:Nat) (nb:Int→List Int) (qq:Int→Int→Bool) (f k:Nat):Prop where
 out:(floodP n nb qq f k).1=lvls n (gP nb qq) f k
 now:∀ i,i∈(floodP n nb qq f k).2↔0≤i∧i < (n:Int)∧lvl n (gP nb qq) f k i.toNat=(k:Int)
theorem floodP_is (hf:f < n) (hnb:∀ a,∀ k∈nb a,0≤k∧k < (n:Int)):∀ k:Nat,PIs n nb qq f k
 | 0 => ⟨(lvls_zero hf).symm, fun i => by
   show i∈[(f:Int)]↔0≤i∧i < (n:Int)∧(if i.toNat=f then (0:Int) else -1)=((0:Nat):Int)
   rw [List.mem_singleton]
   constructor
   ·rintro rfl
    exact ⟨by omega,by omega,by rw [if_pos (by omega)]; rfl⟩
   ·rintro ⟨h0,hn,h⟩
    split at h <;> omega⟩
 | k+1=>by
  have ih:=floodP_is hf hnb k
  have hl:(floodP n nb qq f k).1.length=n:=by rw [ih.out,lvls_len]
  have hs:=sent_all (n:=n) (r:=((k+1:Nat):Int)) (by omega) (qq:=qq) hnb (floodP n nb qq f k).2 hl []
  have hh:∀ i,i < n→((∃ a∈(floodP n nb qq f k).2,(i:Int)∈nb a∧qq a i=true)↔hitR n (gP nb qq) f k i):=fun i hi=>by
   constructor
   ·rintro ⟨a,ha,h1,h2⟩
    obtain ⟨h0,hn,e⟩:=(ih.now a).1 ha
    have ea:((a.toNat:Nat):Int)=a:=by omega
    refine ⟨a.toNat,by omega,e,?_⟩
    unfold gP; rw [ea,h2,Bool.and_true]
    exact List.contains_iff_mem.2 h1
   ·rintro ⟨a,ha,e,hg⟩
    unfold gP at hg
    rw [Bool.and_eq_true] at hg
    exact ⟨(a:Int),(ih.now _).2 ⟨by omega,by omega,e⟩,List.contains_iff_mem.1 hg.1,hg.2⟩
  exact ⟨round_is ih.out hs hh,round_mem ih.out hs hh⟩
theorem known_start (hf:f < n):known (start n f)=1:=by
 unfold start
 have h:=known_set (List.replicate n (-1)) f 0 (by rw [List.length_replicate]; exact hf) (Int.le_refl 0)
 have e:at0 (List.replicate n (-1)) f < 0:=by unfold at0; rw [List.getElem?_replicate]; split <;> decide
 rw [h.2 e,known_rep]
theorem floodP_sent (hf:f < n) (hnb:∀ a,∀ k∈nb a,0≤k∧k < (n:Int)):∀ k:Nat,(floodP n nb qq f (k+1)).2.length+known (lvls n (gP nb qq) f k)=known (lvls n (gP nb qq) f (k+1)):=fun k=>by
 have ih:=floodP_is (qq:=qq) hf hnb k
 have ih2:=floodP_is (qq:=qq) hf hnb (k+1)
 have hl:(floodP n nb qq f k).1.length=n:=by rw [ih.out,lvls_len]
 have hs:=(sent_all (n:=n) (r:=((k+1:Nat):Int)) (by omega) (qq:=qq) hnb (floodP n nb qq f k).2 hl []).cnt
 have e:(floodP n nb qq f k).2.foldl (sendP nb qq ((k+1:Nat):Int)) ((floodP n nb qq f k).1,[])=floodP n nb qq f (k+1):=rfl
 rw [e,ih.out,ih2.out] at hs
 simpa using hs
end
section
variable {n : Nat} {g : Nat → Nat → Bool} {f : Nat}
theorem lvl_calm {k:Nat} (h:∀ i,i < n→lvl n g f k i≠k):∀ (j i:Nat),i < n→lvl n g f (k+j) i=lvl n g f k i∧lvl n g f k i < k
 | 0,i,hi=>⟨rfl,by have:=lvl_rng (n:=n) (g:=g) (f:=f) k i; have:=h i hi; omega⟩
 | j+1,i,hi=>by
  have ih:=fun i hi=>lvl_calm h j i hi
  refine ⟨?_,(ih i hi).2⟩
  rw [← (ih i hi).1]
  refine lvl_miss (k:=k+j) fun ⟨_,a,ha,e,_⟩=>?_
  have:=ih a ha
  omega
theorem lvl_each (hf:f < n):∀ (k:Nat),(∃ i,i < n∧lvl n g f k i=k)→∀ j,j≤k→∃ i,i < n∧lvl n g f k i=j
 | 0,_,j,hj=>by
  have e:j=0:=by omega
  subst e
  exact ⟨f,hf,by unfold lvl; rw [if_pos rfl]; rfl⟩
 | k+1,⟨i,hi,e⟩,j,hj=>by
  by_cases h:j=k+1
  ·subst h; exact ⟨i,hi,e⟩
  have hr:=lvl_rng (n:=n) (g:=g) (f:=f) k i
  have hh:∃ a,a < n∧lvl n g f k a=k:=by
   by_cases h1:lvl n g f k i < 0∧hitR n g f k i
   ·obtain ⟨a,ha,e,_⟩:=h1.2; exact ⟨a,ha,e⟩
   ·rw [lvl_miss h1] at e; omega
  obtain ⟨x,hx,ex⟩:=lvl_each hf k hh j (by omega)
  exact ⟨x,hx,by rw [lvl_keep (by omega)]; exact ex⟩
theorem lvl_top (hf:f < n):∀ i,i < n→lvl n g f n i≠n:=fun i hi e=>by
 have h:=lvl_each hf n ⟨i,hi,e⟩
 have:=pigeon n (n+1) (fun j=>if hj:j≤n then Classical.choose (h j hj) else 0) (fun j hj=>by
  show (if hj:j≤n then Classical.choose (h j hj) else 0) < n
  rw [dif_pos (by omega)]; exact (Classical.choose_spec (h j (by omega))).1) (fun a b hab hb=>by
  show (if hj:a≤n then Classical.choose (h a hj) else 0)≠(if hj:b≤n then Classical.choose (h b hj) else 0)
  rw [dif_pos (by omega),dif_pos (by omega)]
  intro e
  have h1:=(Classical.choose_spec (h a (by omega))).2
  have h2:=(Classical.choose_spec (h b (by omega))).2
  rw [e,h2] at h1
  omega)
 omega
theorem lvls_calm {k:Nat} (h:∀ i,i < n→lvl n g f k i≠k) (j:Nat):lvls n g f (k+j)=lvls n g f k:=by
 refine list_ext0 (lvls_len _) (lvls_len _) fun i hi=>?_
 rw [lvls_at hi,lvls_at hi]; exact (lvl_calm h j i hi).1
theorem lvls_stop (hf:f < n) {k:Nat} (h:∀ i,i < n→lvl n g f k i≠k):lvls n g f k=lvls n g f n:=by
 rcases Nat.le_total k n with hk | hk
 ·obtain ⟨j,rfl⟩:=Nat.le.dest hk
  exact (lvls_calm h j).symm
 ·obtain ⟨j,rfl⟩:=Nat.le.dest hk
  exact lvls_calm (lvl_top hf) j
end
end Vc
namespace Vc
theorem lvl_congr {n:Nat} {g h:Nat→Nat→Bool} {f:Nat} (e:∀ a i,a < n→i < n→g a i=h a i):∀ k i,i < n→lvl n g f k i=lvl n h f k i
 | 0,i,_=>rfl
 | k+1,i,hi=>by
  have ih:=lvl_congr (f:=f) e k
  have e2:(List.range n).any (fun a=>decide (lvl n g f k a=k)&&g a i)=(List.range n).any (fun a=>decide (lvl n h f k a=k)&&h a i):=by
   rw [Bool.eq_iff_iff,List.any_eq_true,List.any_eq_true]
   constructor
   ·rintro ⟨a,ha,h1⟩
    have han:=List.mem_range.1 ha
    exact ⟨a,ha,by rw [← ih a han,← e a i han hi]; exact h1⟩
   ·rintro ⟨a,ha,h1⟩
    have han:=List.mem_range.1 ha
    exact ⟨a,ha,by rw [ih a han,e a i han hi]; exact h1⟩
  unfold lvl
  rw [e2,ih i hi]
theorem lvls_congr {n:Nat} {g h:Nat→Nat→Bool} {f:Nat} (e:∀ a i,a < n→i < n→g a i=h a i) (k:Nat):lvls n g f k=lvls n h f k :=
 list_ext0 (lvls_len _) (lvls_len _) fun i hi=>by rw [lvls_at hi,lvls_at hi]; exact lvl_congr e k i hi
theorem lvl_lt {n:Nat} {g:Nat→Nat→Bool} {f k i:Nat} (hf:f < n) (hi:i < n) (h:lvl n g f k i=k):k < n:=by
 rcases Nat.lt_or_ge k n with hk | hk
 ·exact hk
 ·obtain ⟨j,rfl⟩:=Nat.le.dest hk
  have:=lvl_calm (lvl_top (g:=g) hf) j i hi
  omega
section
variable {n : Nat} {g : Nat → Nat → Bool} {f : Nat}
def pre (n:Nat) (g:Nat→Nat→Bool) (f k j:Nat):List Int:=((List.range j).filter fun a=>decide (lvl n g f k a=k)).map Int.ofNat
end
structure FOk (n:Nat) (s:List Int × List Int):Prop where
 len:s.1.length=n
 nx:s.2.length≤known s.1
theorem FOk.step {n:Nat} {s:List Int × List Int} (h:FOk n s) (q:Int→Bool) {r k:Int} (hr:0≤r) (hk:0≤k∧k < (n:Int)):FOk n (stepS q r s k):=by
 unfold stepS
 cases e:(decide (0≤at0 s.1 k.toNat)||!(q k))
 ·rw [Bool.or_eq_false_iff,decide_eq_false_iff_not] at e
  have hl:=h.len
  have:=known_set s.1 k.toNat r (by omega) hr
  refine ⟨by show (s.1.set k.toNat r).length=n; rw [List.length_set]; exact h.len,?_⟩
  show (s.2++[k]).length≤known (s.1.set k.toNat r)
  rw [this.2 (by omega),List.length_append]
  exact Nat.succ_le_succ h.nx
 ·exact h
theorem FOk.bound {n:Nat} {s:List Int × List Int} (h:FOk n s):s.2.length≤n:=by
 have:=h.nx; have:=known_le s.1; have:=h.len; omega
theorem fold_snoc {α β:Type} (f:β→α→β) (b:β) {l:List α} {k:Nat} {x:α} (h:l[k]?=some x):(l.take (k+1)).foldl f b=f ((l.take k).foldl f b) x:=by
 have hk:k < l.length:=(List.getElem?_eq_some_iff.1 h).1
 rw [List.take_add_one,h,List.foldl_append]; rfl
end Vc
set_option maxRecDepth 10000
namespace Vc
open Go Go.Proofs Go.RowKit
theorem c163 (x y:Nat) (hx:x < 18446744073709551616) (hy:y < 18446744073709551616) (h:x * y < 18446744073709551616):CallDet Tryz.prog 97 [.d (.int .u64 x),.d (.int .u64 y)] [.int .u64 0,.int .u64 ((x * y:Nat):Int)]:=by
 refine ⟨hasFnB_spec (by kernel_rfl),fun w S vs hv hS _=>?_⟩
 simp only [VRels,VRel,DRel] at hv
 obtain ⟨v1,r,rfl,rfl,v2,r2,rfl,rfl,rfl⟩:=hv
 refine (Tryz.bits_Mul64 x y hx hy w).mono ?_
 rintro e w' ⟨rfl,rfl⟩
 refine ⟨_,S,rfl,Below.refl _ _,fun _ _ h=>h,fun _ _ h=>.inl h,hS,?_⟩
 rw [Nat.div_eq_of_lt h,Nat.mod_eq_of_lt h]
 exact ⟨[.int .u64 0,.int .u64 ((x * y:Nat):Int)],rfl,⟨_,_,rfl,rfl,⟨_,_,rfl,rfl,rfl⟩⟩⟩
def ir144:AFun:=⟨30,0,[.tmp 4,.tmp 5],
 (.seq
 (.reg [] [⟨some 4,.mov (.cst (.d (.int .u64 0))),none⟩,
 ⟨some 5,.mov (.cst (.d (.int .u64 0))),none⟩])
 (.seq
 (.cond (.cst (.d (.bool false)))
 (.seq
 (.reg [] [⟨some 11,.mov (.tmp 0),none⟩,
 ⟨some 12,.conv .u32 (.tmp 11),none⟩,
 ⟨some 13,.mov (.tmp 1),none⟩,
 ⟨some 14,.conv .u32 (.tmp 13),none⟩,
 ⟨some 15,.call 96 [(.tmp 12),(.tmp 14)],none⟩,
 ⟨some 10,.mov (.tmp 15),none⟩,
 ⟨some 16,.ext 0 (.tmp 10),none⟩,
 ⟨some 17,.ext 1 (.tmp 10),none⟩,
 ⟨some 6,.mov (.tmp 16),none⟩,
 ⟨some 7,.mov (.tmp 17),none⟩])
 (.seq
 (.reg [] [⟨some 18,.mov (.tmp 6),none⟩,
 ⟨some 19,.conv .u64 (.tmp 18),none⟩,
 ⟨some 20,.mov (.tmp 7),none⟩,
 ⟨some 21,.conv .u64 (.tmp 20),none⟩,
 ⟨some 4,.mov (.tmp 19),none⟩,
 ⟨some 5,.mov (.tmp 21),none⟩])
 .ret))
 .skip)
 (.seq
 (.reg [] [⟨some 23,.mov (.tmp 0),none⟩,
 ⟨some 24,.mov (.tmp 1),none⟩,
 ⟨some 25,.call 97 [(.tmp 23),(.tmp 24)],none⟩,
 ⟨some 22,.mov (.tmp 25),none⟩,
 ⟨some 26,.ext 0 (.tmp 22),none⟩,
 ⟨some 27,.ext 1 (.tmp 22),none⟩,
 ⟨some 8,.mov (.tmp 26),none⟩,
 ⟨some 9,.mov (.tmp 27),none⟩])
 (.seq
 (.reg [] [⟨some 28,.mov (.tmp 8),none⟩,
 ⟨some 29,.mov (.tmp 9),none⟩,
 ⟨some 4,.mov (.tmp 28),none⟩,
 ⟨some 5,.mov (.tmp 29),none⟩])
 .ret))))⟩
theorem c144 (y:Nat) (hy:y < 18446744073709551616):CallDet Tryz.prog 70 [.d (.int .u64 1),.d (.int .u64 y)] [.int .u64 0,.int .u64 y]:=by
 have h:=c163 1 y (by omega) hy (by omega)
 rw [Nat.one_mul] at h
 refine call_of_vc (x:=ir144) (by kernel_rfl) rfl ?_
 refine ca h ?_
 exact rfl
theorem brk_lt_no {a b:Int} {x y:Prop} (h:¬ a < b) (hy:y):brk (decide (a < b)) x y:=b_f (decide_eq_false h) hy
theorem rep_head {N:Nat} (x z:Data):[x].take N++(List.replicate N z).drop 1=List.replicate (min 1 N) x++List.replicate (N - 1) z:=by
 cases N with
 | zero=>rfl
 | succ n =>
  rw [List.drop_replicate]
  have:min 1 (n+1)=1:=by omega
  rw [this,List.take_of_length_le (by simp)]; rfl
theorem rep_step {es : List Data} {N k : Nat} {x : Data} (hl : es.length = N) (ht : es.take k = List.replicate k x) (hk : k < N) (h0 : 1 ≤ k) :
  (es.take k++(es.drop 0).take (min (k - 0) (N - k))++es.drop (k+min (k - 0) (N - k))).length=N ∧
  (es.take k++(es.drop 0).take (min (k - 0) (N - k))++es.drop (k+min (k - 0) (N - k))).take (k+min (k - 0) (N - k))=List.replicate (k+min (k - 0) (N - k)) x:=by
 generalize hc:min (k - 0) (N - k)=c
 have hck:c≤k:=by omega
 have hcn:k+c≤N:=by omega
 have e1:(es.drop 0).take c=List.replicate c x:=by
  rw [List.drop_zero]
  have:=congrArg (List.take c) ht
  rw [List.take_take,List.take_replicate,Nat.min_eq_left hck] at this
  exact this
 rw [ht,e1]
 constructor
 ·simp only [List.length_append,List.length_replicate,List.length_drop]; omega
 ·rw [List.take_append_of_le_length (by simp),List.take_of_length_le (by simp),List.replicate_append_replicate]
def ir108:AFun:=⟨48,1,[.tmp 4],
 (.seq
 (.reg [] [⟨some 4,.mov (.cst (.nils 1)),none⟩])
 (.seq
 (.seq
 (.reg [] [⟨some 9,.mov (.tmp 1),none⟩,
 ⟨some 10,.cmp .lss (.tmp 9) (.cst (.d (.int .i64 0))),none⟩])
 (.cond (.tmp 10)
 .dead
 .skip))
 (.seq
 (.reg [] [⟨some 13,.mov (.tmp 0),none⟩,
 ⟨some 14,.len (.tmp 13),none⟩,
 ⟨some 15,.conv .u64 (.tmp 14),none⟩,
 ⟨some 16,.mov (.tmp 1),none⟩,
 ⟨some 17,.conv .u64 (.tmp 16),none⟩,
 ⟨some 18,.call 70 [(.tmp 15),(.tmp 17)],none⟩,
 ⟨some 12,.mov (.tmp 18),none⟩,
 ⟨some 19,.ext 0 (.tmp 12),none⟩,
 ⟨some 20,.ext 1 (.tmp 12),none⟩,
 ⟨some 5,.mov (.tmp 19),none⟩,
 ⟨some 6,.mov (.tmp 20),none⟩])
 (.seq
 (.seq
 (.reg [] [⟨some 21,.mov (.tmp 5),none⟩,
 ⟨some 22,.cmp .gtr (.tmp 21) (.cst (.d (.int .u64 0))),none⟩,
 ⟨some 23,.mov (.tmp 22),none⟩,
 ⟨some 24,.mov (.tmp 6),some (23,false)⟩,
 ⟨some 25,.cmp .gtr (.tmp 24) (.cst (.d (.int .u64 9223372036854775807))),some (23,false)⟩,
 ⟨some 26,.pick (.tmp 23) (.cst (.d (.bool true))) (.tmp 25),none⟩])
 (.cond (.tmp 26)
 .dead
 .skip))
 (.seq
 (.reg [0] [⟨some 28,.mov (.tmp 6),none⟩,
 ⟨some 29,.conv .i64 (.tmp 28),none⟩,
 ⟨some 30,.msl 0 3 1 8 (.int .i64 0) (.tmp 29),none⟩,
 ⟨some 7,.mov (.tmp 30),none⟩])
 (.seq
 (.reg [] [⟨some 31,.mov (.tmp 7),none⟩,
 ⟨some 32,.mov (.tmp 0),none⟩,
 ⟨some 33,.copy 1 (.tmp 31) (.tmp 32),none⟩,
 ⟨some 8,.mov (.tmp 33),none⟩])
 (.seq
 (.post [7] [0]
 (.block 0
 (.keep [7,8] [0]
 (.loop
 (.post [7,8] []
 (.seq
 (.seq
 (.reg [] [⟨some 34,.mov (.tmp 8),none⟩,
 ⟨some 35,.mov (.tmp 7),none⟩,
 ⟨some 36,.len (.tmp 35),none⟩,
 ⟨some 37,.cmp .lss (.tmp 34) (.tmp 36),none⟩])
 (.cond (.tmp 37)
 .skip
 (.exit 0)))
 (.block 1
 (.regd [] [⟨some 38,.mov (.tmp 8),none⟩,
 ⟨some 39,.mov (.tmp 7),none⟩,
 ⟨some 40,.mov (.tmp 8),none⟩,
 ⟨some 41,.slw 1 (.tmp 39) (some (.tmp 40)) none,none⟩,
 ⟨some 42,.mov (.tmp 7),none⟩,
 ⟨some 43,.mov (.tmp 8),none⟩,
 ⟨some 44,.slw 1 (.tmp 42) none (some (.tmp 43)),none⟩,
 ⟨some 45,.copyw 1 (.tmp 41) (.tmp 44),none⟩,
 ⟨some 46,.arith .add .i64 (.tmp 38) (.tmp 45),none⟩,
 ⟨some 8,.mov (.tmp 46),none⟩] [(0,1),(0,2),(1,2),(0,3),(0,4),(1,4),(2,4),(3,4),(0,5),(1,5),(2,5),(3,5),(4,5),(0,6),(1,6),(2,6),(3,6),(0,7)]))))))))
 (.seq
 (.reg [] [⟨some 47,.mov (.tmp 7),none⟩,
 ⟨some 4,.mov (.tmp 47),none⟩])
 .ret))))))))⟩
theorem c108r (x:Data) (N:Nat) (hN:N≤1048576):CallRow Tryz.prog 30 [.d (.slice 1 [x]),.d (.int .i64 N)] 3 1 (List.replicate N x):=by
 refine callRow_of_vc (x:=ir108) (by kernel_rfl) rfl ?_
 refine sd ?_
 refine Exists.intro 1 (And.intro rfl ?_)
 refine Exists.intro (N:Int) (And.intro (IntWalk.u64_in _ (by omega)) ?_)
 refine ca (c144 N (by omega)) ?_
 refine sd ?_
 refine sd ?_
 refine brk_lt_no ?_ ?_
 ·omega
 refine Exists.intro (N:Int) (And.intro (IntWalk.i64_in _ (by omega)) ?_)
 refine And.intro ⟨by omega,by show (N:Int) * 8≤2 ^ 47; omega,by show (N:Int)≤2 ^ 47; omega⟩ ?_
 refine Exists.intro _ (And.intro ⟨rfl,rfl,List.length_replicate,rfl⟩ ?_)
 refine loop_st (fun a:Nat × List Data=>⟨[(7,.sl 0 N),(8,.d (.int .i64 a.1))],[.row 3 1 a.2 false]⟩)
  (fun a=>(a.2.length=N∧a.2.take a.1=List.replicate a.1 x)∧a.1≤N∧(0 < N→1≤a.1)) (fun a=>N - a.1) (min 1 N,[x].take N++(List.replicate N (.int .i64 0:Data)).drop 1) rfl ?_ ?_
 ·rw [rep_head]
  refine ⟨⟨?_,?_⟩,?_,?_⟩
  ·show (List.replicate (min 1 N) x++List.replicate (N - 1) (.int .i64 0:Data)).length=N
   simp only [List.length_append,List.length_replicate]; omega
  ·show (List.replicate (min 1 N) x++List.replicate (N - 1) (.int .i64 0:Data)).take (min 1 N)=_
   rw [List.take_append_of_le_length (by simp),List.take_of_length_le (by simp)]
  ·show min 1 N≤N; omega
  ·intro h; show 1≤min 1 N; omega
 rintro ⟨k,es⟩ ⟨⟨hl,ht⟩,hk,h1⟩
 have hl:es.length=N:=hl
 have hk:k≤N:=hk
 have ht:es.take k=List.replicate k x:=ht
 refine And.intro hl ?_
 refine sd ?_
 refine b_lt (fun h=>?_) (fun h=>?_)
 ·have h:(k:Int) < (es.length:Int):=h
  have hk1:1≤k:=h1 (by omega)
  have hs:=rep_step hl ht (by omega) hk1
  refine And.intro ⟨rfl,hl,by omega,by omega,Int.le_refl _,by omega⟩ ?_
  refine And.intro ⟨rfl,hl,by omega,by omega,by omega,by omega⟩ ?_
  refine And.intro ⟨rfl,hl,rfl,by show k < N; omega,by show 0 < N; omega⟩ ?_
  have e:((es.length:Int)).toNat=N:=by omega
  have hA:-9223372036854775808≤(k:Int)+((min ((k:Int).toNat - (0:Int).toNat) ((es.length:Int).toNat - (k:Int).toNat):Nat):Int)∧(k:Int)+((min ((k:Int).toNat - (0:Int).toNat) ((es.length:Int).toNat - (k:Int).toNat):Nat):Int)≤9223372036854775807:=by omega
  refine ar_add hA ?_
  refine ⟨(k+min (k - 0) (es.length - k),es.take k++(es.drop 0).take (min (k - 0) (es.length - k))++es.drop (k+min (k - 0) (es.length - k))),⟨?_,?_⟩,rfl⟩
  ·rw [hl]
   refine ⟨hs,?_,?_⟩
   ·show k+min (k - 0) (N - k)≤N; omega
   ·intro _; show 1≤k+min (k - 0) (N - k); omega
  ·show N - (k+min (k - 0) (es.length - k)) < N - k
   omega
 ·have h:¬ (k:Int) < (es.length:Int):=h
  have e:es=List.replicate N x:=by
   rw [List.take_of_length_le (by omega)] at ht
   rw [ht]; congr 1; omega
  rw [e]
  exact .inl ⟨0,⟨congrArg (AVal.sl 0) List.length_replicate.symm,rfl⟩,rfl⟩
end Vc
set_option maxRecDepth 10000
namespace Vc
open Go Go.Proofs
theorem ints_set (d:List Int) (i:Nat) (v:Int):ints (d.set i v)=(ints d).set i (.int .i64 v):=by unfold ints; rw [List.map_set]
theorem ints_rep (n:Nat) (v:Int):ints (List.replicate n v)=List.replicate n (.int .i64 v):=by unfold ints; rw [List.map_replicate]
theorem ints_at0 {d:List Int} {i:Nat} (h:i < d.length):(ints d)[i]?=some (.int .i64 (at0 d i)):=by
 unfold ints at0
 rw [List.getElem?_map,List.getElem?_eq_getElem h]; rfl
theorem DOk.rng {n f:Nat} {d:List Int} (h:DOk n f d) (i:Nat):-1≤at0 d i∧at0 d i≤3200:=by
 have h1:=h.low i
 have h2:=h.neg i
 exact ⟨by by_cases e:at0 d i < 0 <;> omega,h1⟩
def Ms.dist (m:Ms) (f:Int):List Int:=passes m.ls (m.ns.length - 1) (start m.ns.length f.toNat)
theorem Ms.fine.okIn {m:Ms} (h:m.fine):∀ l∈m.ls,l.okIn m.ns.length:=fun l hl=>by
 obtain ⟨⟨h1,h2,_⟩,h3⟩:=h.link hl
 exact ⟨h1,h2,h3⟩
theorem node_in {m:Ms} {f:Int} (h:m.nodeE f=0):0≤f∧f < (m.ns.length:Int):=by
 unfold Ms.nodeE outN at h
 by_cases e1:f < 0
 ·rw [decide_eq_true e1] at h; cases h
 ·by_cases e2:(m.ns.length:Int)≤f
  ·rw [decide_eq_false e1,decide_eq_true e2] at h; cases h
  ·omega
def ir92:AFun:=⟨79,5,[.tmp 4],
 (.seq
 (.reg [0] [⟨some 2,.cbx 0 2 (.tmp 0),none⟩,
 ⟨some 4,.mov (.cst (.nils 1)),none⟩])
 (.seq
 (.reg [1] [⟨some 12,.bsl 1 3 1 1 [(.int .i64 0)] [(0,(.cst (.d (.int .i64 (-1)))))],none⟩,
 ⟨some 13,.fad 0 (.tmp 2),none⟩,
 ⟨some 14,.ld false 1 (.tmp 13),none⟩,
 ⟨some 15,.len (.tmp 14),none⟩,
 ⟨some 16,.calln 4 3 1 30 [(.tmp 12),(.tmp 15)],none⟩,
 ⟨some 5,.mov (.tmp 16),none⟩])
 (.seq
 (.reg [] [⟨some 17,.mov (.tmp 5),none⟩,
 ⟨some 18,.mov (.tmp 1),none⟩,
 ⟨some 19,.ixa 1 (.tmp 17) (.tmp 18),none⟩,
 ⟨none,.st 1 (.tmp 19) (.cst (.d (.int .i64 0))),none⟩])
 (.seq
 (.seq
 (.reg [] [⟨some 6,.mov (.cst (.d (.bool true))),none⟩])
 (.post [5] [0,1,2,3]
 (.block 0
 (.keep [2,5,6] [0,1]
 (.loop
 (.post [2,5,6] [2,3]
 (.seq
 (.seq
 (.reg [] [⟨some 20,.mov (.tmp 6),none⟩])
 (.cond (.tmp 20)
 .skip
 (.exit 0)))
 (.block 1
 (.seq
 (.reg [] [⟨some 6,.mov (.cst (.d (.bool false))),none⟩])
 (.seq
 (.reg [] [⟨some 21,.fad 1 (.tmp 2),none⟩,
 ⟨some 22,.ld false 1 (.tmp 21),none⟩,
 ⟨some 23,.len (.tmp 22),none⟩,
 ⟨some 24,.mov (.cst (.d (.int .i64 0))),none⟩])
 (.post [2,5,6] [0,1,2,3]
 (.block 2
 (.keep [2,5,6,22,23,24] [0,1]
 (.loop
 (.post [2,5,6,22,23,24] [2,3]
 (.seq
 (.reg [] [⟨some 25,.cmp .lss (.tmp 24) (.tmp 23),none⟩])
 (.seq
 (.cond (.tmp 25)
 .skip
 (.exit 2))
 (.seq
 (.block 3
 (.seq
 (.reg [2] [⟨some 26,.ixa 3 (.tmp 22) (.tmp 24),none⟩,
 ⟨some 27,.ld true 3 (.tmp 26),none⟩,
 ⟨some 8,.alloc 2 [(.d (.int .i64 0)),(.d (.int .i64 0)),(.d (.int .i64 0))],none⟩,
 ⟨none,.st 3 (.tmp 8) (.tmp 27),none⟩])
 (.seq
 (.reg [] [⟨some 28,.fad 0 (.tmp 8),none⟩,
 ⟨some 29,.ld false 1 (.tmp 28),none⟩,
 ⟨some 30,.fad 1 (.tmp 8),none⟩,
 ⟨some 31,.ld false 1 (.tmp 30),none⟩,
 ⟨some 32,.build [(.d (.int .i64 0)),(.d (.int .i64 0))] [(0,1,(.tmp 29)),(1,1,(.tmp 31))],none⟩,
 ⟨some 33,.fad 1 (.tmp 8),none⟩,
 ⟨some 34,.ld false 1 (.tmp 33),none⟩,
 ⟨some 35,.fad 0 (.tmp 8),none⟩,
 ⟨some 36,.ld false 1 (.tmp 35),none⟩,
 ⟨some 37,.build [(.d (.int .i64 0)),(.d (.int .i64 0))] [(0,1,(.tmp 34)),(1,1,(.tmp 36))],none⟩,
 ⟨some 38,.build [(.d (.int .i64 0)),(.d (.int .i64 0)),(.d (.int .i64 0)),(.d (.int .i64 0))] [(0,2,(.tmp 32)),(2,2,(.tmp 37))],none⟩,
 ⟨some 39,.mov (.cst (.d (.int .i64 0))),none⟩])
 (.post [2,5,6,22,23,24] [0,1,2,3]
 (.block 4
 (.keep [2,5,6,8,22,23,24,38,39] [0,1,2]
 (.loop
 (.post [2,5,6,8,22,23,24,38,39] [3]
 (.seq
 (.reg [] [⟨some 40,.cmp .lss (.tmp 39) (.cst (.d (.int .i64 2))),none⟩])
 (.seq
 (.cond (.tmp 40)
 .skip
 (.exit 4))
 (.seq
 (.block 5
 (.seq
 (.reg [3] [⟨some 41,.ixv true 2 2 (.tmp 38) (.tmp 39),none⟩,
 ⟨some 10,.alloc 3 [(.d (.int .i64 0)),(.d (.int .i64 0))],none⟩,
 ⟨none,.st 2 (.tmp 10) (.tmp 41),none⟩])
 (.seq
 (.seq
 (.reg [] [⟨some 42,.mov (.tmp 5),none⟩,
 ⟨some 43,.ixp 2 1 (.tmp 10) (.cst (.d (.int .i64 0))),none⟩,
 ⟨some 44,.ld false 1 (.tmp 43),none⟩,
 ⟨some 45,.ixa 1 (.tmp 42) (.tmp 44),none⟩,
 ⟨some 46,.ld false 1 (.tmp 45),none⟩,
 ⟨some 47,.cmp .lss (.tmp 46) (.cst (.d (.int .i64 0))),none⟩])
 (.cond (.tmp 47)
 (.exit 5)
 .skip))
 (.seq
 (.regd [] [⟨some 48,.mov (.tmp 5),none⟩,
 ⟨some 49,.ixp 2 1 (.tmp 10) (.cst (.d (.int .i64 0))),none⟩,
 ⟨some 50,.ld false 1 (.tmp 49),none⟩,
 ⟨some 51,.ixa 1 (.tmp 48) (.tmp 50),none⟩,
 ⟨some 52,.ld false 1 (.tmp 51),none⟩,
 ⟨some 53,.fad 2 (.tmp 8),none⟩,
 ⟨some 54,.ld false 1 (.tmp 53),none⟩,
 ⟨some 55,.arith .add .i64 (.tmp 52) (.tmp 54),none⟩,
 ⟨some 11,.mov (.tmp 55),none⟩] [(0,1),(0,2),(0,5),(1,5),(2,5),(3,5),(4,5),(0,6),(1,6),(2,6),(3,6),(4,6)])
 (.seq
 (.reg [] [⟨some 56,.mov (.tmp 5),none⟩,
 ⟨some 57,.ixp 2 1 (.tmp 10) (.cst (.d (.int .i64 1))),none⟩,
 ⟨some 58,.ld false 1 (.tmp 57),none⟩,
 ⟨some 59,.ixa 1 (.tmp 56) (.tmp 58),none⟩,
 ⟨some 60,.ld false 1 (.tmp 59),none⟩,
 ⟨some 61,.cmp .lss (.tmp 60) (.cst (.d (.int .i64 0))),none⟩,
 ⟨some 62,.mov (.tmp 61),none⟩,
 ⟨some 63,.mov (.tmp 11),some (62,false)⟩,
 ⟨some 64,.mov (.tmp 5),some (62,false)⟩,
 ⟨some 65,.ixp 2 1 (.tmp 10) (.cst (.d (.int .i64 1))),some (62,false)⟩,
 ⟨some 66,.ld false 1 (.tmp 65),some (62,false)⟩,
 ⟨some 67,.ixa 1 (.tmp 64) (.tmp 66),some (62,false)⟩,
 ⟨some 68,.ld false 1 (.tmp 67),some (62,false)⟩,
 ⟨some 69,.cmp .lss (.tmp 63) (.tmp 68),some (62,false)⟩,
 ⟨some 70,.pick (.tmp 62) (.cst (.d (.bool true))) (.tmp 69),none⟩])
 (.cond (.tmp 70)
 (.seq
 (.reg [] [⟨some 71,.mov (.tmp 5),none⟩,
 ⟨some 72,.ixp 2 1 (.tmp 10) (.cst (.d (.int .i64 1))),none⟩,
 ⟨some 73,.ld false 1 (.tmp 72),none⟩,
 ⟨some 74,.mov (.tmp 11),none⟩,
 ⟨some 75,.ixa 1 (.tmp 71) (.tmp 73),none⟩,
 ⟨none,.st 1 (.tmp 75) (.tmp 74),none⟩])
 (.reg [] [⟨some 6,.mov (.cst (.d (.bool true))),none⟩]))
 .skip))))))
 (.reg [] [⟨some 76,.arith .add .i64 (.tmp 39) (.cst (.d (.int .i64 1))),none⟩,
 ⟨some 39,.mov (.tmp 76),none⟩]))))))))))))
 (.reg [] [⟨some 77,.arith .add .i64 (.tmp 24) (.cst (.d (.int .i64 1))),none⟩,
 ⟨some 24,.mov (.tmp 77),none⟩])))))))))))))))))))
 (.seq
 (.reg [] [⟨some 78,.mov (.tmp 5),none⟩,
 ⟨some 4,.mov (.tmp 78),none⟩])
 .ret)))))⟩
theorem nodeD_ok {m:Ms} {i:Int} (h:nodeD m i=0):m.fine∧0≤i∧i < (m.ns.length:Int):=by
 have h1:=firstOf_zero h
 exact ⟨chk_fine (h1 m.chk (by simp)),node_in (h1 (m.nodeE i) (by simp))⟩
end Vc
set_option maxRecDepth 10000
namespace Vc
open Go Go.Proofs
def En.d (x:En):Data:=.agg [.int .i64 x.nu,.int .i64 x.di,.int .i64 x.ne]
def ens (l:List En):List Data:=l.map En.d
structure Sts where
 co:Int
 nu:Int
 es:List En
def Sts.d (s:Sts):Data:=.agg [.int .i64 s.co,.int .i64 s.nu,.slice 3 (ens s.es)]
def Sts.at (s:Sts) (i:Int):En:=(s.es[i.toNat]?).getD ⟨0,0,0⟩
end Vc
set_option maxRecDepth 10000
set_option maxHeartbeats 4000000
namespace Vc
open Go Go.Proofs
def prD (p:Int × Int):Data:=.agg [.int .i64 p.1,.int .i64 p.2]
def prs (l:List (Int × Int)):List Data:=l.map prD
theorem prs_len (l:List (Int × Int)):(prs l).length=l.length:=List.length_map _
theorem prs_at {l:List (Int × Int)} {k:Nat} {p:Int × Int} (h:l[k]?=some p):(prs l)[(k:Int).toNat]?=some (.agg [.int .i64 p.1,.int .i64 p.2]):=by simp [prs,h,prD]
def samP (p:Int × Int) (x y:Int):Bool:=(p.1==x)&&((p.2==y)&&true)
def lostB:List (Int × Int)→Int→Int→Bool
 | [],_,_=>false
 | p::r,x,y=>bif samP p x y then true else lostB r x y
def ixP:List (Int × Int)→Int→Int→Int→Int
 | [],_,_,_=>-1
 | p::r,x,y,k=>bif samP p x y then k else ixP r x y (k+1)
theorem ixP_ge (x y:Int):∀ (l:List (Int × Int)) (k:Int),0≤k→decide (0≤ixP l x y k)=lostB l x y
 | [],k,_=>rfl
 | p::r,k,hk=>by
  unfold ixP lostB
  cases samP p x y
  ·exact ixP_ge x y r (k+1) (by omega)
  ·exact decide_eq_true hk
theorem samP_sym (p:Int × Int) (x y:Int):((x==p.1)&&((y==p.2)&&true))=samP p x y:=by
 unfold samP
 rw [show (x==p.1)=(p.1==x) from Bool.eq_iff_iff.2 (by rw [beq_iff_eq,beq_iff_eq]; exact eq_comm),show (y==p.2)=(p.2==y) from Bool.eq_iff_iff.2 (by rw [beq_iff_eq,beq_iff_eq]; exact eq_comm)]
def ir107:AFun:=⟨12,1,[.tmp 4],
 (.seq
 (.reg [0] [⟨some 2,.cbx 0 2 (.tmp 0),none⟩,
 ⟨some 4,.mov (.cst (.d (.int .i64 0))),none⟩])
 (.seq
 (.seq
 (.reg [] [⟨some 5,.mov (.tmp 1),none⟩,
 ⟨some 6,.len (.tmp 5),none⟩,
 ⟨some 7,.cmp .gtr (.tmp 6) (.cst (.d (.int .i64 256))),none⟩])
 (.cond (.tmp 7)
 (.seq
 (.reg [] [⟨some 4,.mov (.cst (.d (.int .i64 5))),none⟩])
 .ret)
 .skip))
 (.seq
 (.reg [] [⟨some 8,.mov (.tmp 1),none⟩,
 ⟨some 9,.mkf (.func 69) [] [(.tmp 2)],none⟩,
 ⟨some 10,.call 68 [(.tmp 8),(.tmp 9)],none⟩,
 ⟨some 11,.call 26 [(.tmp 10)],none⟩,
 ⟨some 4,.mov (.tmp 11),none⟩])
 .ret)))⟩
def ir109:AFun:=⟨9,1,[.tmp 4],
 (.seq
 (.reg [0] [⟨some 3,.cbx 0 2 (.tmp 1),none⟩,
 ⟨some 4,.mov (.cst (.d (.bool false))),none⟩])
 (.seq
 (.reg [] [⟨some 5,.mov (.tmp 0),none⟩,
 ⟨some 6,.ld true 2 (.tmp 3),none⟩,
 ⟨some 7,.call 72 [(.tmp 5),(.tmp 6)],none⟩,
 ⟨some 8,.cmp .geq (.tmp 7) (.cst (.d (.int .i64 0))),none⟩,
 ⟨some 4,.mov (.tmp 8),none⟩])
 .ret))⟩
def ir145:AFun:=⟨22,3,[.tmp 4],
 (.seq
 (.reg [] [⟨some 4,.mov (.cst (.nils 1)),none⟩])
 (.seq
 (.reg [] [⟨some 5,.mov (.cst (.nils 1)),none⟩])
 (.seq
 (.seq
 (.reg [] [⟨some 8,.mov (.tmp 0),none⟩,
 ⟨some 9,.len (.tmp 8),none⟩,
 ⟨some 10,.mov (.cst (.d (.int .i64 0))),none⟩])
 (.post [5] [0,1,2]
 (.block 0
 (.asrow 2 43 1 5
 (.keep [1,5,8,9,10] []
 (.loop
 (.post [1,5,8,9,10] [0,1,2]
 (.seq
 (.reg [] [⟨some 11,.cmp .lss (.tmp 10) (.tmp 9),none⟩])
 (.seq
 (.cond (.tmp 11)
 .skip
 (.exit 0))
 (.seq
 (.block 1
 (.seq
 (.reg [0] [⟨some 12,.ixa 2 (.tmp 8) (.tmp 10),none⟩,
 ⟨some 13,.ld true 2 (.tmp 12),none⟩,
 ⟨some 7,.alloc 0 [(.d (.int .i64 0)),(.d (.int .i64 0))],none⟩,
 ⟨none,.st 2 (.tmp 7) (.tmp 13),none⟩])
 (.reg [1,2] [⟨some 14,.mov (.tmp 5),none⟩,
 ⟨some 15,.mov (.tmp 1),none⟩,
 ⟨some 16,.ld true 2 (.tmp 7),none⟩,
 ⟨some 17,.callv (.tmp 15) [(.tmp 16)],none⟩,
 ⟨some 18,.bsl 1 43 1 1 [(.int .i64 0)] [(0,(.tmp 17))],none⟩,
 ⟨some 19,.app 2 43 1 8 (.tmp 14) (.tmp 18),none⟩,
 ⟨some 5,.mov (.tmp 19),none⟩])))
 (.reg [] [⟨some 20,.arith .add .i64 (.tmp 10) (.cst (.d (.int .i64 1))),none⟩,
 ⟨some 10,.mov (.tmp 20),none⟩])))))))))))
 (.seq
 (.reg [] [⟨some 21,.mov (.tmp 5),none⟩,
 ⟨some 4,.mov (.tmp 21),none⟩])
 .ret))))⟩
def ir146:AFun:=⟨14,2,[.tmp 3],
 (.seq
 (.reg [0] [⟨some 2,.cbx 0 2 (.tmp 0),none⟩,
 ⟨some 3,.mov (.cst (.d (.int .i64 0))),none⟩])
 (.seq
 (.regd [1] [⟨some 4,.ld true 2 (.tmp 1),none⟩,
 ⟨some 5,.ixp 2 1 (.tmp 2) (.cst (.d (.int .i64 0))),none⟩,
 ⟨some 6,.ld false 1 (.tmp 5),none⟩,
 ⟨some 7,.call 28 [(.tmp 4),(.tmp 6)],none⟩,
 ⟨some 8,.ld true 2 (.tmp 1),none⟩,
 ⟨some 9,.ixp 2 1 (.tmp 2) (.cst (.d (.int .i64 1))),none⟩,
 ⟨some 10,.ld false 1 (.tmp 9),none⟩,
 ⟨some 11,.call 28 [(.tmp 8),(.tmp 10)],none⟩,
 ⟨some 12,.bsl 1 43 1 2 [(.int .i64 0),(.int .i64 0)] [(0,(.tmp 7)),(1,(.tmp 11))],none⟩,
 ⟨some 13,.call 26 [(.tmp 12)],none⟩,
 ⟨some 3,.mov (.tmp 13),none⟩] [(0,1),(0,2),(0,4),(1,4),(2,4),(3,4),(0,5),(1,5),(2,5),(3,5),(4,5),(0,6),(1,6),(2,6),(3,6),(4,6)])
 .ret))⟩
def ir147:AFun:=⟨19,1,[.tmp 4],
 (.seq
 (.reg [0] [⟨some 3,.cbx 0 2 (.tmp 1),none⟩,
 ⟨some 4,.mov (.cst (.d (.int .i64 0))),none⟩])
 (.seq
 (.seq
 (.reg [] [⟨some 6,.mov (.tmp 0),none⟩,
 ⟨some 7,.len (.tmp 6),none⟩,
 ⟨some 8,.mov (.cst (.d (.int .i64 0))),none⟩])
 (.post [] [0]
 (.block 0
 (.keep [0,3,7,8] [0]
 (.loop
 (.post [0,3,7,8] []
 (.seq
 (.reg [] [⟨some 9,.cmp .lss (.tmp 8) (.tmp 7),none⟩])
 (.seq
 (.cond (.tmp 9)
 .skip
 (.exit 0))
 (.seq
 (.block 1
 (.seq
 (.reg [] [⟨some 10,.mov (.tmp 8),none⟩,
 ⟨some 5,.mov (.tmp 10),none⟩])
 (.seq
 (.regd [] [⟨some 11,.ld true 2 (.tmp 3),none⟩,
 ⟨some 12,.mov (.tmp 0),none⟩,
 ⟨some 13,.mov (.tmp 5),none⟩,
 ⟨some 14,.ixa 2 (.tmp 12) (.tmp 13),none⟩,
 ⟨some 15,.ld true 2 (.tmp 14),none⟩,
 ⟨some 16,.aeq false [0,0] (.tmp 11) (.tmp 15),none⟩] [(0,1),(0,2),(1,2),(0,3),(0,4)])
 (.cond (.tmp 16)
 (.seq
 (.reg [] [⟨some 17,.mov (.tmp 5),none⟩,
 ⟨some 4,.mov (.tmp 17),none⟩])
 .ret)
 .skip))))
 (.reg [] [⟨some 18,.arith .add .i64 (.tmp 8) (.cst (.d (.int .i64 1))),none⟩,
 ⟨some 8,.mov (.tmp 18),none⟩]))))))))))
 (.seq
 (.reg [] [⟨some 4,.mov (.cst (.d (.int .i64 (-1)))),none⟩])
 .ret)))⟩
theorem c147 (l:List (Int × Int)) (x y:Int) (hl:l.length≤1048576):CallDet Tryz.prog 72 [.d (.slice 2 (prs l)),.d (.agg [.int .i64 x,.int .i64 y])] [.int .i64 (ixP l x y 0)]:=by
 have hln:=prs_len l
 have fin:∀ v,ixP l x y 0=v→resV [.int .i64 v]=resV [.int .i64 (ixP l x y 0)]:=fun v h=>by rw [h]
 refine call_of_vc (x:=ir147) (by kernel_rfl) rfl ?_
 rotate_left
 refine loop_u (fun k:Nat=>[(8,.d (.int .i64 k))]) (fun _=>[]) (fun k=>k≤l.length∧ixP l x y 0=ixP (l.drop k) x y k) (fun k=>l.length - k) 0 rfl ⟨Nat.zero_le _,rfl⟩ ?_
 rintro k ⟨hk,he⟩
 have hk:k≤l.length:=hk
 have he:ixP l x y 0=ixP (l.drop k) x y k:=he
 by_cases hkk:k < l.length
 ·refine Exists.elim (get_lt l hkk) fun p hp=>?_
  have hpd:=prs_at hp
  rw [drop_at hp,ixP] at he
  have e2:samP p x y=false→ixP l x y 0=ixP (l.drop (k+1)) x y (k+1):=fun h=>by rw [he,h]; rfl
  have e1:samP p x y=true→ixP l x y 0=k:=fun h=>by rw [he,h]; rfl
  rw [← samP_sym] at e1 e2
  refine sd ?_
  refine b_lt (fun t1=>?_) (fun t1=>?_)
  refine ix_at hpd ?_ ?_
  (show (0:Int)≤(↑k:Int); omega)
  refine ca (Exists.intro _ (And.intro rfl rfl)) ?_
  refine b_intro (fun t2=>?_) (fun t2=>?_)
  replace t2:(x==Prod.fst p&&(y==Prod.snd p&&true))=true:=t2
  rotate_left
  replace t2:(x==Prod.fst p&&(y==Prod.snd p&&true))=false:=t2
  refine ar_add ?_ ?_
  refine an ?_ ?_
  (show (-9223372036854775808:Int)≤(↑k:Int)+(1:Int); omega)
  (show (↑k:Int)+(1:Int)≤(9223372036854775807:Int); omega)
  rotate_left
  (exfalso; omega)
  ·exact fin _ (e1 t2)
  ·exact ⟨k+1,⟨⟨by show k+1≤l.length; omega,e2 t2⟩,by show l.length - (k+1) < l.length - k; omega⟩,rfl⟩
 ·rw [List.drop_eq_nil_of_le (by omega)] at he
  refine sd ?_
  refine b_lt (fun t1=>?_) (fun t1=>?_)
  (exfalso; omega)
  rotate_left
  exact fin _ he
theorem c109 (l:List (Int × Int)) (x y:Int) (hl:l.length≤1048576):CallDet Tryz.prog 32 [.d (.slice 2 (prs l)),.d (.agg [.int .i64 x,.int .i64 y])] [.bool (lostB l x y)]:=by
 refine call_of_vc (x:=ir109) (by kernel_rfl) rfl ?_
 refine ca (c147 l x y hl) ?_
 refine sd ?_
 rotate_left
 exact congrArg (fun b=>resV [.bool b]) (ixP_ge x y l 0 (Int.le_refl _))
def pairE (m:Ms) (p:Int × Int):Int:=firstOf [m.nodeE p.1,m.nodeE p.2]
theorem c146 (m:Ms) (p:Int × Int):CallDet Tryz.prog 69 [.d (prD p),.cp [.slice 1 (strs m.ns),.slice 3 (lks m.ls)] 0] [.int .i64 (pairE m p)]:=by
 refine call_of_vc (x:=ir146) (by kernel_rfl) rfl ?_
 refine an ?_ ?_
 refine an ?_ ?_
 (show (0:Int)≤(0:Int); omega)
 (show (0:Int) < (↑(2:Nat):Int); omega)
 refine ca (c87 m _) ?_
 refine an ?_ ?_
 refine an ?_ ?_
 (show (0:Int)≤(1:Int); omega)
 (show (1:Int) < (↑(2:Nat):Int); omega)
 refine ca (c87 m _) ?_
 refine sd ?_
 refine sd ?_
 refine ca (c86 [Ms.nodeE m (Prod.fst p),Ms.nodeE m (Prod.snd p)] (by simp)) ?_
 exact rfl
theorem c145 (m:Ms) (l:List (Int × Int)) (hl:l.length≤1048576):CallDet Tryz.prog 68 [.d (.slice 2 (prs l)),.d (.fn (.func 69) [.agg [.slice 1 (strs m.ns),.slice 3 (lks m.ls)]])] [.slice 1 (ints (l.map (pairE m)))]:=by
 have hln:=prs_len l
 have fin:∀ X,X=l→resV [.slice 1 (ints (X.map (pairE m)))]=resV [.slice 1 (ints (l.map (pairE m)))]:=fun X h=>by rw [h]
 refine call_of_vc (x:=ir145) (by kernel_rfl) rfl ?_
 rotate_left
 refine loop_u (fun k:Nat=>[(5,.sl 2 (ints ((l.take k).map (pairE m))).length),(10,.d (.int .i64 k))]) (fun k=>[(2,.row 43 1 (ints ((l.take k).map (pairE m))) false)]) (fun k=>k≤l.length) (fun k=>l.length - k) 0 rfl (Nat.zero_le _) ?_
 intro k hk
 have hk:k≤l.length:=hk
 have hil:=ints_len ((l.take k).map (pairE m))
 rw [List.length_map,List.length_take] at hil
 by_cases hkk:k < l.length
 ·refine Exists.elim (get_lt l hkk) fun p hp=>?_
  have hpd:=prs_at hp
  have e:ints ((l.take (k+1)).map (pairE m))=ints ((l.take k).map (pairE m))++[.int .i64 (pairE m p)]:=by
   rw [take_one hp,List.map_append]; unfold ints; rw [List.map_append]; rfl
  refine sd ?_
  refine b_lt (fun t1=>?_) (fun t1=>?_)
  refine ix_at hpd ?_ ?_
  (show (0:Int)≤(↑k:Int); omega)
  refine ca (c146 m p) ?_
  refine sd ?_
  refine sd ?_
  refine sd ?_
  refine an ?_ ?_
  refine an ?_ ?_
  exact rfl
  refine an ?_ ?_
  exact rfl
  refine an ?_ ?_
  exact rfl
  refine an ?_ ?_
  (show (List.length (ints (List.map (pairE m) (List.take k l)))+(1:Nat)) * (8:Nat)≤(2:Nat) ^ (47:Nat); omega)
  (show List.length (ints (List.map (pairE m) (List.take k l)))+(1:Nat)≤(2:Nat) ^ (47:Nat); omega)
  refine ar_add ?_ ?_
  refine an ?_ ?_
  (show (-9223372036854775808:Int)≤(↑k:Int)+(1:Int); omega)
  (show (↑k:Int)+(1:Int)≤(9223372036854775807:Int); omega)
  rotate_left
  (exfalso; omega)
  refine ⟨k+1,⟨by show k+1≤l.length; omega,by show l.length - (k+1) < l.length - k; omega⟩,?_⟩
  rw [e]; rfl
 ·refine sd ?_
  refine b_lt (fun t1=>?_) (fun t1=>?_)
  (exfalso; omega)
  refine sd ?_
  rotate_left
  exact fin (l.take k) (List.take_of_length_le (by omega))
def pairsE (m:Ms) (l:List (Int × Int)):Int:=bif decide (256 < (l.length:Int)) then 5 else firstOf (l.map (pairE m))
theorem c107 (m:Ms) (l:List (Int × Int)) (hl:l.length≤1048576):CallDet Tryz.prog 29 [.d m.d,.d (.slice 2 (prs l))] [.int .i64 (pairsE m l)]:=by
 have hln:=prs_len l
 have fin:∀ v,pairsE m l=v→resV [.int .i64 v]=resV [.int .i64 (pairsE m l)]:=fun v h=>by rw [h]
 refine call_of_vc (x:=ir107) (by kernel_rfl) rfl ?_
 refine sd ?_
 refine b_lt (fun t1=>?_) (fun t1=>?_)
 rotate_left
 refine ca (c145 m l hl) ?_
 refine ca (c86 (l.map (pairE m)) (by rw [List.length_map]; omega)) ?_
 rotate_left
 ·exact fin _ (by unfold pairsE; rw [← hln,decide_eq_true t1]; rfl)
 ·exact fin _ (by unfold pairsE; rw [← hln,decide_eq_false t1]; rfl)
end Vc
set_option maxRecDepth 10000
namespace Vc
open Go Go.Proofs
end Vc
set_option maxRecDepth 10000
set_option maxHeartbeats 4000000
namespace Vc
open Go Go.Proofs
def ir40:AFun:=⟨88,7,[.tmp 6,.tmp 7,.tmp 8],
 (.seq
 (.reg [0] [⟨some 3,.cbx 0 2 (.tmp 0),none⟩,
 ⟨some 6,.mov (.cst (.nils 1)),none⟩,
 ⟨some 7,.mov (.cst (.d (.int .i64 0))),none⟩,
 ⟨some 8,.mov (.cst (.d (.int .i64 0))),none⟩])
 (.seq
 (.seq
 (.regd [1] [⟨some 19,.ld true 2 (.tmp 3),none⟩,
 ⟨some 20,.call 27 [(.tmp 19)],none⟩,
 ⟨some 21,.ld true 2 (.tmp 3),none⟩,
 ⟨some 22,.mov (.tmp 1),none⟩,
 ⟨some 23,.call 28 [(.tmp 21),(.tmp 22)],none⟩,
 ⟨some 24,.ld true 2 (.tmp 3),none⟩,
 ⟨some 25,.mov (.tmp 2),none⟩,
 ⟨some 26,.call 29 [(.tmp 24),(.tmp 25)],none⟩,
 ⟨some 27,.bsl 1 43 1 3 [(.int .i64 0),(.int .i64 0),(.int .i64 0)] [(0,(.tmp 20)),(1,(.tmp 23)),(2,(.tmp 26))],none⟩,
 ⟨some 28,.call 26 [(.tmp 27)],none⟩,
 ⟨some 9,.mov (.tmp 28),none⟩] [(0,2),(1,2),(0,3),(1,3),(2,3),(0,5),(1,5),(2,5),(3,5),(4,5),(0,6),(1,6),(2,6),(3,6),(4,6),(5,6)])
 (.seq
 (.reg [] [⟨some 29,.mov (.tmp 9),none⟩,
 ⟨some 30,.cmp .neq (.tmp 29) (.cst (.d (.int .i64 0))),none⟩])
 (.cond (.tmp 30)
 (.seq
 (.reg [] [⟨some 31,.mov (.tmp 9),none⟩,
 ⟨some 6,.mov (.cst (.nils 1)),none⟩,
 ⟨some 7,.mov (.cst (.d (.int .i64 0))),none⟩,
 ⟨some 8,.mov (.tmp 31),none⟩])
 .ret)
 .skip)))
 (.seq
 (.reg [2] [⟨some 32,.bsl 2 3 1 1 [(.int .i64 0)] [(0,(.cst (.d (.int .i64 (-1)))))],none⟩,
 ⟨some 33,.fad 0 (.tmp 3),none⟩,
 ⟨some 34,.ld false 1 (.tmp 33),none⟩,
 ⟨some 35,.len (.tmp 34),none⟩,
 ⟨some 36,.calln 6 3 1 30 [(.tmp 32),(.tmp 35)],none⟩,
 ⟨some 10,.mov (.tmp 36),none⟩])
 (.seq
 (.reg [] [⟨some 37,.mov (.tmp 10),none⟩,
 ⟨some 38,.mov (.tmp 1),none⟩,
 ⟨some 39,.ixa 1 (.tmp 37) (.tmp 38),none⟩,
 ⟨none,.st 1 (.tmp 39) (.cst (.d (.int .i64 0))),none⟩])
 (.seq
 (.reg [] [⟨some 11,.mov (.cst (.d (.int .i64 0))),none⟩])
 (.seq
 (.reg [3] [⟨some 40,.mov (.tmp 1),none⟩,
 ⟨some 41,.bsl 3 3 1 1 [(.int .i64 0)] [(0,(.tmp 40))],none⟩,
 ⟨some 12,.mov (.tmp 41),none⟩])
 (.seq
 (.seq
 (.reg [] [⟨some 13,.mov (.cst (.d (.int .i64 1))),none⟩])
 (.post [10,11] [0,1,2,3,4,5]
 (.block 0
 (.asdat 12 (.keep [2,3,10,11,12,13] [0,1,2,3]
 (.loop
 (.post [2,3,10,11,12,13] [4,5]
 (.seq
 (.seq
 (.reg [] [⟨some 42,.mov (.tmp 12),none⟩,
 ⟨some 43,.len (.tmp 42),none⟩,
 ⟨some 44,.cmp .gtr (.tmp 43) (.cst (.d (.int .i64 0))),none⟩])
 (.cond (.tmp 44)
 .skip
 (.exit 0)))
 (.seq
 (.block 1
 (.seq
 (.reg [] [⟨some 14,.mov (.cst (.nils 1)),none⟩])
 (.seq
 (.seq
 (.reg [] [⟨some 47,.mov (.tmp 12),none⟩,
 ⟨some 48,.len (.tmp 47),none⟩,
 ⟨some 49,.mov (.cst (.d (.int .i64 0))),none⟩])
 (.post [2,3,10,11,13,14] [0,1,2,3,4,5]
 (.block 2
 (.asrow 5 3 1 14
 (.keep [2,3,10,11,13,14,47,48,49] [0,1,2,3]
 (.loop
 (.post [2,3,10,11,13,14,47,48,49] [4,5]
 (.seq
 (.reg [] [⟨some 50,.cmp .lss (.tmp 49) (.tmp 48),none⟩])
 (.seq
 (.cond (.tmp 50)
 .skip
 (.exit 2))
 (.seq
 (.block 3
 (.seq
 (.reg [] [⟨some 51,.ixa 1 (.tmp 47) (.tmp 49),none⟩,
 ⟨some 52,.ld false 1 (.tmp 51),none⟩,
 ⟨some 16,.mov (.tmp 52),none⟩])
 (.seq
 (.reg [] [⟨some 53,.mov (.tmp 11),none⟩,
 ⟨some 54,.arith .add .i64 (.tmp 53) (.cst (.d (.int .i64 1))),none⟩,
 ⟨some 11,.mov (.tmp 54),none⟩])
 (.seq
 (.reg [] [⟨some 55,.ld true 2 (.tmp 3),none⟩,
 ⟨some 56,.mov (.tmp 16),none⟩,
 ⟨some 57,.call 31 [(.tmp 55),(.tmp 56)],none⟩,
 ⟨some 58,.len (.tmp 57),none⟩,
 ⟨some 59,.mov (.cst (.d (.int .i64 0))),none⟩])
 (.post [2,3,10,11,13,14,47,48,49] [0,1,2,3,4,5]
 (.block 4
 (.asrow 5 3 1 14
 (.keep [2,3,10,11,13,14,16,47,48,49,57,58,59] [0,1,2,3]
 (.loop
 (.post [2,3,10,11,13,14,16,47,48,49,57,58,59] [4,5]
 (.seq
 (.reg [] [⟨some 60,.cmp .lss (.tmp 59) (.tmp 58),none⟩])
 (.seq
 (.cond (.tmp 60)
 .skip
 (.exit 4))
 (.seq
 (.block 5
 (.seq
 (.reg [] [⟨some 61,.ixa 1 (.tmp 57) (.tmp 59),none⟩,
 ⟨some 62,.ld false 1 (.tmp 61),none⟩,
 ⟨some 18,.mov (.tmp 62),none⟩])
 (.seq
 (.seq
 (.reg [] [⟨some 63,.mov (.tmp 10),none⟩,
 ⟨some 64,.mov (.tmp 18),none⟩,
 ⟨some 65,.ixa 1 (.tmp 63) (.tmp 64),none⟩,
 ⟨some 66,.ld false 1 (.tmp 65),none⟩,
 ⟨some 67,.cmp .geq (.tmp 66) (.cst (.d (.int .i64 0))),none⟩,
 ⟨some 68,.mov (.tmp 67),none⟩,
 ⟨some 69,.mov (.tmp 2),some (68,false)⟩,
 ⟨some 70,.mov (.tmp 18),some (68,false)⟩,
 ⟨some 71,.mov (.tmp 16),some (68,false)⟩,
 ⟨some 72,.build [(.d (.int .i64 0)),(.d (.int .i64 0))] [(0,1,(.tmp 70)),(1,1,(.tmp 71))],some (68,false)⟩,
 ⟨some 73,.call 32 [(.tmp 69),(.tmp 72)],some (68,false)⟩,
 ⟨some 74,.pick (.tmp 68) (.cst (.d (.bool true))) (.tmp 73),none⟩])
 (.cond (.tmp 74)
 (.exit 5)
 .skip))
 (.seq
 (.reg [] [⟨some 75,.mov (.tmp 10),none⟩,
 ⟨some 76,.mov (.tmp 18),none⟩,
 ⟨some 77,.mov (.tmp 13),none⟩,
 ⟨some 78,.ixa 1 (.tmp 75) (.tmp 76),none⟩,
 ⟨none,.st 1 (.tmp 78) (.tmp 77),none⟩])
 (.reg [4,5] [⟨some 79,.mov (.tmp 14),none⟩,
 ⟨some 80,.mov (.tmp 18),none⟩,
 ⟨some 81,.bsl 4 3 1 1 [(.int .i64 0)] [(0,(.tmp 80))],none⟩,
 ⟨some 82,.app 5 3 1 8 (.tmp 79) (.tmp 81),none⟩,
 ⟨some 14,.mov (.tmp 82),none⟩])))))
 (.reg [] [⟨some 83,.arith .add .i64 (.tmp 59) (.cst (.d (.int .i64 1))),none⟩,
 ⟨some 59,.mov (.tmp 83),none⟩]))))))))))))))
 (.reg [] [⟨some 84,.arith .add .i64 (.tmp 49) (.cst (.d (.int .i64 1))),none⟩,
 ⟨some 49,.mov (.tmp 84),none⟩])))))))))))
 (.asdat 14 (.reg [] [⟨some 85,.mov (.tmp 14),none⟩,
 ⟨some 12,.mov (.tmp 85),none⟩])))))
 (.reg [] [⟨some 45,.mov (.tmp 13),none⟩,
 ⟨some 46,.arith .add .i64 (.tmp 45) (.cst (.d (.int .i64 1))),none⟩,
 ⟨some 13,.mov (.tmp 46),none⟩]))))))))))
 (.seq
 (.reg [] [⟨some 86,.mov (.tmp 10),none⟩,
 ⟨some 87,.mov (.tmp 11),none⟩,
 ⟨some 6,.mov (.tmp 86),none⟩,
 ⟨some 7,.mov (.tmp 87),none⟩,
 ⟨some 8,.mov (.cst (.d (.int .i64 0))),none⟩])
 .ret))))))))⟩
def gL (m:Ms) (lost:List (Int × Int)) (a b:Nat):Bool:=decide (0 < betw m.ls a b)&&!(lostB lost b a)
def Ms.floods (m:Ms) (lost:List (Int × Int)) (f:Int):List Int:=lvls m.ns.length (gL m lost) f.toNat m.ns.length
def floodE (m:Ms) (f:Int) (lost:List (Int × Int)):Int:=firstOf [m.chk,m.nodeE f,pairsE m lost]
def Ms.floodsP (m:Ms) (lost:List (Int × Int)) (f:Int):List Int:=bif floodE m f lost != 0 then [] else m.floods lost f
def Ms.floodsN (m:Ms) (lost:List (Int × Int)) (f:Int):Int:=bif floodE m f lost != 0 then 0 else (known (m.floods lost f):Int)
theorem nbs_mem (m:Ms) (i x:Int):∀ k:Nat,x∈nbs m i k↔0≤x∧x < (k:Int)∧0 < betw m.ls i x
 | 0=>by
  show x∈[]↔_
  constructor
  ·intro h; cases h
  ·rintro ⟨h0,h1,_⟩; omega
 | k+1=>by
  have ih:=nbs_mem m i x k
  rw [nbs,List.mem_append,ih]
  by_cases h:0 < betw m.ls i k
  ·rw [decide_eq_true h]
   show _∨x∈[(k:Int)]↔_
   rw [List.mem_singleton]
   constructor
   ·rintro (⟨h0,h1,h2⟩ | rfl)
    ·exact ⟨h0,by omega,h2⟩
    ·exact ⟨by omega,by omega,h⟩
   ·rintro ⟨h0,h1,h2⟩
    by_cases e:x=k
    ·exact .inr e
    ·exact .inl ⟨h0,by omega,h2⟩
  ·rw [decide_eq_false h]
   show _∨x∈[]↔_
   constructor
   ·rintro (⟨h0,h1,h2⟩ | hh)
    ·exact ⟨h0,by omega,h2⟩
    ·cases hh
   ·rintro ⟨h0,h1,h2⟩
    by_cases e:x=k
    ·subst e; exact absurd h2 h
    ·exact .inl ⟨h0,by omega,h2⟩
def qqL (lost:List (Int × Int)) (a b:Int):Bool:=!(lostB lost b a)
theorem gP_gL (m:Ms) (lost:List (Int × Int)) (a i:Nat) (ha:a < m.ns.length) (hi:i < m.ns.length):gP m.nbs (qqL lost) a i=gL m lost a i:=by
 unfold gP gL qqL Ms.nbs
 congr 1
 have h:=nbs_mem m a i m.ns.length
 rw [Bool.eq_iff_iff,decide_eq_true_iff,List.contains_iff_mem,h]
 exact ⟨fun h=>h.2.2,fun h=>⟨by omega,by omega,h⟩⟩
theorem nbs_in (m:Ms) (a k:Int) (h:k∈m.nbs a):0≤k∧k < (m.ns.length:Int):=⟨((nbs_mem m a k _).1 h).1,((nbs_mem m a k _).1 h).2.1⟩
theorem ints_app (a b:List Int):ints (a++b)=ints a++ints b:=by unfold ints; rw [List.map_append]
theorem c40 (m : Ms) (f : Int) (lost : List (Int × Int)) (hn : m.ns.length ≤ 1048576) (hl : m.ls.length ≤ 1048576) (hll : lost.length ≤ 1048576) :
  CallDet Tryz.prog 7 [.d m.d,.d (.int .i64 f),.d (.slice 2 (prs lost))] [.slice 1 (ints (m.floodsP lost f)),.int .i64 (m.floodsN lost f),.int .i64 (floodE m f lost)]:=by
 have hsl:=strs_len m.ns
 have bad:¬ floodE m f lost=0→resV [.slice 1 [],.int .i64 0,.int .i64 (floodE m f lost)]=resV [.slice 1 (ints (m.floodsP lost f)),.int .i64 (m.floodsN lost f),.int .i64 (floodE m f lost)]:=fun h=>by
  have e:(floodE m f lost != 0)=true:=by rw [bne_iff_ne]; exact h
  unfold Ms.floodsP Ms.floodsN; rw [e]; rfl
 have fin:floodE m f lost=0→∀ (d:List Int) (s:Nat),d=m.floods lost f→s=known (m.floods lost f)→resV [.slice 1 (ints d),.int .i64 s,.int .i64 0]=resV [.slice 1 (ints (m.floodsP lost f)),.int .i64 (m.floodsN lost f),.int .i64 (floodE m f lost)]:=fun h d s h2 h3=>by
  unfold Ms.floodsP Ms.floodsN; rw [h,h2,h3]; rfl
 refine call_of_vc (x:=ir40) (by kernel_rfl) rfl ?_
 by_cases hz:firstOf [m.chk,m.nodeE f,pairsE m lost]=0
 ·have hc0:m.chk=0:=firstOf_zero hz _ (by simp)
  have hn0:m.nodeE f=0:=firstOf_zero hz _ (by simp)
  have hf:=chk_fine hc0
  have hk:=(nodeD_ok (m:=m) (i:=f) (by unfold nodeD; rw [hc0,hn0]; rfl)).2
  have h32:=hf.n32
  have hfn:f.toNat < m.ns.length:=by omega
  have hlr:(List.replicate (strs m.ns).length (Data.int .i64 (-1))).length=m.ns.length:=by rw [List.length_replicate,hsl]
  have hr:(List.replicate (strs m.ns).length (Data.int .i64 (-1)))[f.toNat]?=some (.int .i64 (-1)):=by rw [List.getElem?_replicate,if_pos (by omega)]
  have e0:(List.replicate (strs m.ns).length (Data.int .i64 (-1))).set f.toNat (.int .i64 0)=ints (start m.ns.length f.toNat):=by
   unfold start; rw [ints_set,ints_rep,hsl]
  refine ca (c27 m (by omega) (by omega)) ?_
  refine ca (c87 m _) ?_
  refine ca (c107 m lost hll) ?_
  refine sd ?_
  refine sd ?_
  refine ca (c86 [Ms.chk m,Ms.nodeE m f,pairsE m lost] (by simp)) ?_
  refine sd ?_
  refine b_ne (fun t1=>?_) (fun t1=>?_)
  (exfalso; omega)
  refine sd ?_
  refine sd ?_
  refine ca (c108r _ (strs m.ns).length (by omega)) ?_
  refine an ?_ ?_
  refine an ?_ ?_
  exact rfl
  refine an ?_ ?_
  exact rfl
  refine an ?_ ?_
  (show (0:Int)≤f; omega)
  (show f < (↑(List.length (List.replicate (List.length (strs (Ms.ns m))) (Data.int IntKind.i64 (-1:Int)))):Int); omega)
  refine Exists.intro _ (Exists.intro (Data.int IntKind.i64 (0:Int)) (And.intro (And.intro ?_ (And.intro hr (And.intro rfl (And.intro ?_ (And.intro rfl rfl))))) ?_))
  exact rfl
  (show (0:Nat)+(1:Nat)≤(1:Nat); omega)
  refine sd ?_
  rotate_left
  refine loop_u (fun a:Nat × List Int × List Int × Nat=>[(11,.d (.int .i64 a.2.2.2)),(12,.d (.slice 1 (ints a.2.2.1))),(13,.d (.int .i64 ((a.1:Int)+1)))]) (fun a=>[(6,.row 3 1 (ints a.2.1) false)]) (fun a=>a.1≤m.ns.length∧((a.2.1,a.2.2.1)=floodP m.ns.length m.nbs (qqL lost) f.toNat a.1∧a.2.2.2+a.2.2.1.length=known a.2.1)) (fun a=>m.ns.length - a.1) (0,start m.ns.length f.toNat,[(f.toNat:Int)],0) (by rw [← e0,show ((f.toNat:Nat):Int)=f by omega]; rfl) ⟨Nat.zero_le _,rfl,by show 0+1=known _; rw [known_start hfn]⟩ ?_
  rintro ⟨r,d,nw,s⟩ ⟨hr,hd,hs⟩
  have hr:r≤m.ns.length:=hr
  have hd:(d,nw)=floodP m.ns.length m.nbs (qqL lost) f.toNat r:=hd
  have hs:s+nw.length=known d:=hs
  have his:=floodP_is (qq:=qqL lost) hfn (nbs_in m) r
  have hdo:d=lvls m.ns.length (gP m.nbs (qqL lost)) f.toNat r:=by rw [← his.out,← hd]
  have hno:∀ i,i∈nw↔0≤i∧i < (m.ns.length:Int)∧lvl m.ns.length (gP m.nbs (qqL lost)) f.toNat r i.toNat=(r:Int):=by have h:=his.now; rw [← hd] at h; exact h
  have hdn:d.length=m.ns.length:=by rw [hdo,lvls_len]
  have hdl:(ints d).length=(List.replicate (strs m.ns).length (Data.int .i64 (-1))).length:=by rw [ints_len,hdn,hlr]
  have hkd:=known_le d
  have hnl:=ints_len nw
  dsimp only
  by_cases hw:0 < nw.length
  ·have hrn : r < m.ns.length := by
    refine Exists.elim (get_lt nw hw) fun i hi=>?_
    have h:=(hno i).1 (List.mem_of_getElem? hi)
    exact lvl_lt hfn (by omega) h.2.2
   refine sd ?_
   refine b_lt (fun t2=>?_) (fun t2=>?_)
   rotate_left
   (exfalso; omega)
   refine loop_u (fun a:Nat × List Int × List Int × Nat=>[(11,.d (.int .i64 a.2.2.2)),(14,.sl 5 (ints a.2.2.1).length),(49,.d (.int .i64 a.1))]) (fun a=>[(5,.row 3 1 (ints a.2.2.1) false),(6,.row 3 1 (ints a.2.1) false)]) (fun a=>a.1≤nw.length∧((a.2.1,a.2.2.1)=(nw.take a.1).foldl (sendP m.nbs (qqL lost) ((r+1:Nat):Int)) (d,[])∧(a.2.2.2=s+a.1∧FOk m.ns.length (a.2.1,a.2.2.1)))) (fun a=>nw.length - a.1) (0,d,[],s) rfl ⟨Nat.zero_le _,rfl,rfl,⟨hdn,Nat.zero_le _⟩⟩ ?_
   rintro ⟨i,d1,x1,s1⟩ ⟨hi,hd1,hs1,hk1⟩
   have hi:i≤nw.length:=hi
   have hd1:(d1,x1)=(nw.take i).foldl (sendP m.nbs (qqL lost) ((r+1:Nat):Int)) (d,[]):=hd1
   have hs1:s1=s+i:=hs1
   have hk1:FOk m.ns.length (d1,x1):=hk1
   have hd1n:d1.length=m.ns.length:=hk1.len
   have hd1l:(ints d1).length=(List.replicate (strs m.ns).length (Data.int .i64 (-1))).length:=by rw [ints_len,hd1n,hlr]
   have hxl:=ints_len x1
   have hxb:x1.length≤m.ns.length:=hk1.bound
   dsimp only
   by_cases hii:i < nw.length
   ·refine Exists.elim (get_lt nw hii) fun v hv=>?_
    have hvd:=ints_get hv
    have hfs:=fold_snoc (sendP m.nbs (qqL lost) ((r+1:Nat):Int)) (d,[]) hv
    rw [← hd1] at hfs
    have hbl:=ints_len (m.nbs v)
    have hbn:(m.nbs v).length≤m.ns.length:=nbs_len m v m.ns.length
    refine sd ?_
    refine b_lt (fun t3=>?_) (fun t3=>?_)
    refine ix_at hvd ?_ ?_
    (show (0:Int)≤(↑i:Int); omega)
    refine ar_add ?_ ?_
    refine an ?_ ?_
    (show (-9223372036854775808:Int)≤(↑s1:Int)+(1:Int); omega)
    (show (↑s1:Int)+(1:Int)≤(9223372036854775807:Int); omega)
    refine ca (c88 m v (by omega) (by omega)) ?_
    rotate_left
    (exfalso; omega)
    refine loop_u (fun a:Nat × List Int × List Int=>[(14,.sl 5 (ints a.2.2).length),(59,.d (.int .i64 a.1))]) (fun a=>[(5,.row 3 1 (ints a.2.2) false),(6,.row 3 1 (ints a.2.1) false)]) (fun a=>a.1≤(m.nbs v).length∧((a.2.1,a.2.2)=((m.nbs v).take a.1).foldl (stepS (qqL lost v) ((r+1:Nat):Int)) (d1,x1)∧FOk m.ns.length (a.2.1,a.2.2))) (fun a=>(m.nbs v).length - a.1) (0,d1,x1) rfl ⟨Nat.zero_le _,rfl,hk1⟩ ?_
    rintro ⟨q,d2,x2⟩ ⟨hq,hd2,hk2⟩
    have hq:q≤(m.nbs v).length:=hq
    have hd2:(d2,x2)=((m.nbs v).take q).foldl (stepS (qqL lost v) ((r+1:Nat):Int)) (d1,x1):=hd2
    have hk2:FOk m.ns.length (d2,x2):=hk2
    have hd2n:d2.length=m.ns.length:=hk2.len
    have hd2l:(ints d2).length=(List.replicate (strs m.ns).length (Data.int .i64 (-1))).length:=by rw [ints_len,hd2n,hlr]
    have hx2l:=ints_len x2
    have hx2b:x2.length≤m.ns.length:=hk2.bound
    dsimp only
    by_cases hqq:q < (m.nbs v).length
    ·refine Exists.elim (get_lt (m.nbs v) hqq) fun w hw2=>?_
     have hwd:=ints_get hw2
     have hwr:=nbs_in m v w (List.mem_of_getElem? hw2)
     have hfs2:=fold_snoc (stepS (qqL lost v) ((r+1:Nat):Int)) (d1,x1) hw2
     rw [← hd2] at hfs2
     have hk3:=hk2.step (qqL lost v) (r:=((r+1:Nat):Int)) (by omega) hwr
     have hwx:(ints d2)[w.toNat]?=some (.int .i64 (at0 d2 w.toNat)):=ints_at0 (by omega)
     have kst:(0≤at0 d2 w.toNat∨lostB lost w v=true)→stepS (qqL lost v) ((r+1:Nat):Int) (d2,x2) w=(d2,x2):=fun h=>by
      unfold stepS
      have e:(decide (0≤at0 (d2,x2).1 w.toNat)||!(qqL lost v w))=true:=by
       show (decide (0≤at0 d2 w.toNat)||!(!(lostB lost w v)))=true
       rcases h with h | h
       ·rw [decide_eq_true h]; rfl
       ·rw [h]; exact Bool.or_true _
      rw [e]; rfl
     have kyes:¬ 0≤at0 d2 w.toNat→lostB lost w v=false→stepS (qqL lost v) ((r+1:Nat):Int) (d2,x2) w=(d2.set w.toNat ((r+1:Nat):Int),x2++[w]):=fun h h2=>by
      unfold stepS
      have e:(decide (0≤at0 (d2,x2).1 w.toNat)||!(qqL lost v w))=false:=by
       show (decide (0≤at0 d2 w.toNat)||!(!(lostB lost w v)))=false
       rw [decide_eq_false h,h2]; rfl
      rw [e]; rfl
     have stay:stepS (qqL lost v) ((r+1:Nat):Int) (d2,x2) w=(d2,x2)→(d2,x2)=((m.nbs v).take (q+1)).foldl (stepS (qqL lost v) ((r+1:Nat):Int)) (d1,x1):=fun h=>by rw [hfs2,h]
     refine sd ?_
     refine b_lt (fun t4=>?_) (fun t4=>?_)
     refine ix_at hwd ?_ ?_
     (show (0:Int)≤(↑q:Int); omega)
     refine an ?_ ?_
     refine an ?_ ?_
     exact rfl
     refine an ?_ ?_
     assumption
     refine an ?_ ?_
     (show (0:Int)≤w; omega)
     (show w < (↑(List.length (List.replicate (List.length (strs (Ms.ns m))) (Data.int IntKind.i64 (-1:Int)))):Int); omega)
     refine an ?_ ?_
     assumption
     refine ca hwx ?_
     refine sd ?_
     refine b_le (fun t5=>?_) (fun t5=>?_)
     refine sd ?_
     refine ar_add ?_ ?_
     refine an ?_ ?_
     (show (-9223372036854775808:Int)≤(↑q:Int)+(1:Int); omega)
     (show (↑q:Int)+(1:Int)≤(9223372036854775807:Int); omega)
     rotate_left
     refine ca (c109 lost _ _ hll) ?_
     refine b_intro (fun t6=>?_) (fun t6=>?_)
     replace t6:lostB lost w v=true:=t6
     refine ar_add ?_ ?_
     refine an ?_ ?_
     (show (-9223372036854775808:Int)≤(↑q:Int)+(1:Int); omega)
     (show (↑q:Int)+(1:Int)≤(9223372036854775807:Int); omega)
     rotate_left
     replace t6:lostB lost w v=false:=t6
     refine an ?_ ?_
     refine an ?_ ?_
     exact rfl
     refine an ?_ ?_
     assumption
     refine an ?_ ?_
     (show (0:Int)≤w; omega)
     (show w < (↑(List.length (List.replicate (List.length (strs (Ms.ns m))) (Data.int IntKind.i64 (-1:Int)))):Int); omega)
     refine Exists.intro _ (Exists.intro (Data.int IntKind.i64 ((↑r:Int)+(1:Int))) (And.intro (And.intro ?_ (And.intro hwx (And.intro rfl (And.intro ?_ (And.intro rfl rfl))))) ?_))
     assumption
     (show (0:Nat)+(1:Nat)≤(1:Nat); omega)
     refine sd ?_
     refine sd ?_
     refine sd ?_
     refine an ?_ ?_
     refine an ?_ ?_
     exact rfl
     refine an ?_ ?_
     exact rfl
     refine an ?_ ?_
     exact rfl
     refine an ?_ ?_
     (show (List.length (ints x2)+(1:Nat)) * (8:Nat)≤(2:Nat) ^ (47:Nat); omega)
     (show List.length (ints x2)+(1:Nat)≤(2:Nat) ^ (47:Nat); omega)
     refine ar_add ?_ ?_
     refine an ?_ ?_
     (show (-9223372036854775808:Int)≤(↑q:Int)+(1:Int); omega)
     (show (↑q:Int)+(1:Int)≤(9223372036854775807:Int); omega)
     rotate_left
     (exfalso; omega)
     ·exact ⟨(q+1,d2,x2),⟨⟨by show q+1≤(m.nbs v).length; omega,stay (kst (.inl t5)),hk2⟩,by show (m.nbs v).length - (q+1) < (m.nbs v).length - q; omega⟩,rfl⟩
     ·exact ⟨(q+1,d2,x2),⟨⟨by show q+1≤(m.nbs v).length; omega,stay (kst (.inr t6)),hk2⟩,by show (m.nbs v).length - (q+1) < (m.nbs v).length - q; omega⟩,rfl⟩
     ·have ey:=kyes t5 t6
      rw [ey] at hfs2 hk3
      refine ⟨(q+1,d2.set w.toNat ((r+1:Nat):Int),x2++[w]),⟨⟨by show q+1≤(m.nbs v).length; omega,hfs2.symm,hk3⟩,by show (m.nbs v).length - (q+1) < (m.nbs v).length - q; omega⟩,?_⟩
      show _=St.upd _ [(14,.sl 5 (ints (x2++[w])).length),(59,.d (.int .i64 ((q+1:Nat):Int)))] [(5,.row 3 1 (ints (x2++[w])) false),(6,.row 3 1 (ints (d2.set w.toNat ((r+1:Nat):Int))) false)]
      rw [ints_set,ints_app]; rfl
    ·have eq:q=(m.nbs v).length:=by omega
     have e2:(m.nbs v).take q=m.nbs v:=List.take_of_length_le (by omega)
     rw [e2] at hd2
     refine sd ?_
     refine b_lt (fun t4=>?_) (fun t4=>?_)
     (exfalso; omega)
     refine ar_add ?_ ?_
     refine an ?_ ?_
     (show (-9223372036854775808:Int)≤(↑i:Int)+(1:Int); omega)
     (show (↑i:Int)+(1:Int)≤(9223372036854775807:Int); omega)
     rotate_left
     exact ⟨(i+1,d2,x2,s1+1),⟨⟨by show i+1≤nw.length; omega,by show (d2,x2)=_; rw [hfs,hd2]; rfl,by show s1+1=s+(i+1); omega,hk2⟩,by show nw.length - (i+1) < nw.length - i; omega⟩,rfl⟩
   ·have ei:i=nw.length:=by omega
    refine sd ?_
    refine b_lt (fun t3=>?_) (fun t3=>?_)
    (exfalso; omega)
    rotate_left
    conv=>whnf
    rw [Nat.beq_refl]
    refine ar_add ?_ ?_
    refine an ?_ ?_
    (show (-9223372036854775808:Int)≤(↑r:Int)+(1:Int)+(1:Int); omega)
    (show (↑r:Int)+(1:Int)+(1:Int)≤(9223372036854775807:Int); omega)
    rotate_left
    have e2:nw.take i=nw:=List.take_of_length_le (by omega)
    rw [e2] at hd1
    have hfp:floodP m.ns.length m.nbs (qqL lost) f.toNat (r+1)=(d1,x1):=by
     show (floodP m.ns.length m.nbs (qqL lost) f.toNat r).2.foldl _ ((floodP m.ns.length m.nbs (qqL lost) f.toNat r).1,[])=_
     rw [← hd]; exact hd1.symm
    have hd1o:d1=lvls m.ns.length (gP m.nbs (qqL lost)) f.toNat (r+1):=by
     rw [← (floodP_is (qq:=qqL lost) hfn (nbs_in m) (r+1)).out,hfp]
    have hcn:=floodP_sent (qq:=qqL lost) hfn (nbs_in m) r
    rw [hfp,← hd1o,← hdo] at hcn
    have hcn:x1.length+known d=known d1:=hcn
    exact ⟨(r+1,d1,x1,s1),⟨⟨by show r+1≤m.ns.length; omega,hfp.symm,by show s1+x1.length=known d1; omega⟩,by show m.ns.length - (r+1) < m.ns.length - r; omega⟩,rfl⟩
  ·have hw0:nw=[]:=List.eq_nil_of_length_eq_zero (by omega)
   refine sd ?_
   refine b_lt (fun t2=>?_) (fun t2=>?_)
   (exfalso; omega)
   refine an ?_ ?_
   assumption
   rotate_left
   have hno2:∀ i,i < m.ns.length→lvl m.ns.length (gP m.nbs (qqL lost)) f.toNat r i≠r:=fun i hi e=>by
    have h:=(hno (i:Int)).2 ⟨by omega,by omega,e⟩
    rw [hw0] at h; cases h
   have hde:d=m.floods lost f:=by
    rw [hdo,lvls_stop hfn hno2]
    exact lvls_congr (gP_gL m lost) _
   refine fin hz d s hde ?_
   rw [← hde,← hs,hw0]; rfl
 ·refine ca (c27 m (by omega) (by omega)) ?_
  refine ca (c87 m _) ?_
  refine ca (c107 m lost hll) ?_
  refine sd ?_
  refine sd ?_
  refine ca (c86 [Ms.chk m,Ms.nodeE m f,pairsE m lost] (by simp)) ?_
  refine sd ?_
  refine b_ne (fun t1=>?_) (fun t1=>?_)
  rotate_left
  (exfalso; omega)
  exact bad t1
theorem floods_len (m:Ms) (lost:List (Int × Int)) (f:Int):(m.floods lost f).length=m.ns.length:=lvls_len _
theorem floodE_0 {m:Ms} {f:Int} {lost:List (Int × Int)} (h:m.chk=0):floodE m f lost=firstOf [m.nodeE f,pairsE m lost]:=by
 unfold floodE; rw [firstOf_cons,h]; rfl
end Vc
set_option maxRecDepth 10000
namespace Vc.L
open Go Go.Proofs Go.RowKit
def hasFnB (P:Program) (f:FuncId):Bool :=
 match P.funcs[f]? with
 | some fn=>fn.body.isSome&&!(fn.name == "runtime.NumGoroutine")
 | none=>false
theorem hasFnB_spec {P:Program} {f:FuncId} (h:hasFnB P f=true):HasFn P f:=by
 unfold hasFnB at h
 split at h
 ·rename_i fn hf
  simp only [Bool.and_eq_true,Bool.not_eq_true'] at h
  exact ⟨fn,hf,h.1,h.2⟩
 ·cases h
theorem rows_str {w:World} {S:Nat→Nat→Prop}:∀ {l:List (List UInt8)} {b off:Nat},DRows w S (l.map .str) b off 1→∀ (j:Nat) x,l[j]?=some x→w.cell? ⟨b,off+j,none⟩=some (str x)∧S b (off+j)
 | [],b,off,_,j,x,hx=>by simp at hx
 | s::l,b,off,h,0,x,hx=>by
  simp only [List.map_cons,DRows] at h
  simp at hx
  subst hx
  obtain ⟨⟨_,h1,v,h2,h3⟩,_⟩:=h
  simp only [DRel] at h3
  subst h3
  exact ⟨h2,h1⟩
 | s::l,b,off,h,j+1,x,hx=>by
  simp only [List.map_cons,DRows] at h
  have:=rows_str h.2 j x (by simpa using hx)
  rwa [show off+(j+1)=off+1+j by omega]
end Vc.L
