import Derived.Test.YtcplcokecclehaaG16
import Derived.Test.YtcplcokecclehaaG08
import Derived.Test.YtcplcokecclehaaRows
import Derived.Test.YtcplcokecclehaaG12
import Derived.Test.YtcplcokecclehaaG10
set_option linter.unusedSectionVars false
set_option linter.unusedVariables false
set_option linter.unusedSimpArgs false
set_option maxRecDepth 100000
namespace Vc
open Go Go.Proofs
theorem lib0:∀ f xs rs,(fun (_:FuncId) (_:List AVal)=>(none:Option (List Data))) f xs=some rs→CallDet Try.prog f xs rs:=fun _ _ _ h=>by cases h
theorem k4:CallDet Try.prog 4 [] [.bool true] :=
 callD_good (chkT_spec (chkT_room (m:=20) tabf_chk)) lib0 (fuel:=100000) ((callF_eq _ _ _ _ _ _).symm.trans (show callF Try.prog (getT (roomT 20 tabf)) (fun _ _=>none) 100000 4 []=some [.bool true] by kernel_rfl))
end Vc
set_option maxRecDepth 100000
namespace Vc
open Go Go.Proofs
def ty14:AFun:=⟨30,40,[.tmp 2],
 (.seq
 (.reg [] [⟨some 2,.mov (.cst (.d (.str []))),none⟩])
 (.seq
 (.seq
 (.reg [] [⟨some 6,.mov (.tmp 0),none⟩,
 ⟨some 7,.cmp .eql (.tmp 6) (.cst (.d (.int .i64 0))),none⟩])
 (.cond (.tmp 7)
 (.seq
 (.reg [] [⟨some 2,.mov (.cst (.d (.str [48]))),none⟩])
 .ret)
 .skip))
 (.seq
 (.reg [] [⟨some 3,.mov (.cst (.d (.str []))),none⟩])
 (.seq
 (.reg [] [⟨some 8,.mov (.tmp 0),none⟩,
 ⟨some 4,.mov (.tmp 8),none⟩])
 (.seq
 (.post [0,3] []
 (.block 0
 (.keep [0,3,4] []
 (.loop
 (.post [0,3,4] []
 (.seq
 (.seq
 (.reg [] [⟨some 9,.mov (.tmp 4),none⟩,
 ⟨some 10,.cmp .neq (.tmp 9) (.cst (.d (.int .i64 0))),none⟩])
 (.cond (.tmp 10)
 .skip
 (.exit 0)))
 (.block 1
 (.seq
 (.reg [] [⟨some 11,.mov (.tmp 4),none⟩,
 ⟨some 12,.arith .rem .i64 (.tmp 11) (.cst (.d (.int .i64 10))),none⟩,
 ⟨some 5,.mov (.tmp 12),none⟩])
 (.seq
 (.seq
 (.reg [] [⟨some 13,.mov (.tmp 5),none⟩,
 ⟨some 14,.cmp .lss (.tmp 13) (.cst (.d (.int .i64 0))),none⟩])
 (.cond (.tmp 14)
 (.reg [] [⟨some 15,.mov (.tmp 5),none⟩,
 ⟨some 16,.arith .sub .i64 (.cst (.d (.int .i64 0))) (.tmp 15),none⟩,
 ⟨some 5,.mov (.tmp 16),none⟩])
 .skip))
 (.seq
 (.reg [] [⟨some 17,.mov (.tmp 5),none⟩,
 ⟨some 18,.arith .add .i64 (.cst (.d (.int .i64 48))) (.tmp 17),none⟩,
 ⟨some 19,.conv .i32 (.tmp 18),none⟩,
 ⟨some 20,.i2s (.tmp 19),none⟩,
 ⟨some 21,.mov (.tmp 3),none⟩,
 ⟨some 22,.cat (.tmp 20) (.tmp 21),none⟩,
 ⟨some 3,.mov (.tmp 22),none⟩])
 (.reg [] [⟨some 23,.mov (.tmp 4),none⟩,
 ⟨some 24,.arith .quo .i64 (.tmp 23) (.cst (.d (.int .i64 10))),none⟩,
 ⟨some 4,.mov (.tmp 24),none⟩])))))))))))
 (.seq
 (.seq
 (.reg [] [⟨some 25,.mov (.tmp 0),none⟩,
 ⟨some 26,.cmp .lss (.tmp 25) (.cst (.d (.int .i64 0))),none⟩])
 (.cond (.tmp 26)
 (.seq
 (.reg [] [⟨some 27,.mov (.tmp 3),none⟩,
 ⟨some 28,.cat (.cst (.d (.str [45]))) (.tmp 27),none⟩,
 ⟨some 2,.mov (.tmp 28),none⟩])
 .ret)
 .skip))
 (.seq
 (.reg [] [⟨some 29,.mov (.tmp 3),none⟩,
 ⟨some 2,.mov (.tmp 29),none⟩])
 .ret)))))))⟩
def tabg:TabL:=[
(14,0,ty14)]
theorem tabg_chk:chkT Try.prog tabg=true:=by kernel_rfl
theorem k14_run (i:Int) (b:List UInt8) (h:callF Try.prog (getT (roomT 20 tabg)) (fun _ _=>none) 1000 14 [.d (.int .i64 i)]=some [.str b]):CallDet Try.prog 14 [.d (.int .i64 i)] [.str b] :=
 callD_good (chkT_spec (chkT_room (m:=20) tabg_chk)) lib0 (fuel:=1000) ((callF_eq _ _ _ _ _ _).symm.trans h)
theorem k14 {i:Nat} (hi:i < 4):CallDet Try.prog 14 [.d (.int .i64 (i:Int))] [.str [48+UInt8.ofNat i]]:=by
 have:i=0∨i=1∨i=2∨i=3:=by omega
 rcases this with rfl | rfl | rfl | rfl
 ·exact k14_run 0 [48] (by kernel_rfl)
 ·exact k14_run 1 [49] (by kernel_rfl)
 ·exact k14_run 2 [50] (by kernel_rfl)
 ·exact k14_run 3 [51] (by kernel_rfl)
end Vc
set_option maxRecDepth 10000
namespace Vc
open Go Go.Proofs
def frT (l:List Stn):Int:=(l.map Stn.fr).sum
theorem frT_cons (x:Stn) (r:List Stn):frT (x::r)=x.fr+frT r:=by simp [frT]
theorem frT_nn:∀ {l:List Stn},(∀ x∈l,x.ok)→0≤frT l
 | [],_=>Int.le_refl 0
 | x::r,h=>by
  have h1:=frT_nn (l:=r) fun y hy=>h y (List.mem_cons_of_mem _ hy)
  have h2:=(h x List.mem_cons_self).2.1
  rw [frT_cons]; omega
theorem frT_zero:∀ {l:List Stn},(∀ x∈l,x.ok)→frT l=0→∀ x∈l,x.fr=0
 | [],_,_=>fun _ h=>by cases h
 | x::r,h,e=>by
  have h1:=frT_nn (l:=r) fun y hy=>h y (List.mem_cons_of_mem _ hy)
  have h2:=(h x List.mem_cons_self).2.1
  rw [frT_cons] at e
  intro y hy
  rcases List.mem_cons.1 hy with rfl | hy
  ·omega
  ·exact frT_zero (l:=r) (fun y hy=>h y (List.mem_cons_of_mem _ hy)) (by omega) y hy
theorem frT_none:∀ {l:List Stn},(∀ x∈l,x.ok)→(∀ x∈l,¬ 0 < x.fr)→frT l=0
 | [],_,_=>rfl
 | x::r,ho,h=>by
  have h1:=frT_none (l:=r) (fun y hy=>ho y (List.mem_cons_of_mem _ hy)) fun y hy=>h y (List.mem_cons_of_mem _ hy)
  have h2:=(ho x List.mem_cons_self).2.1
  have h3:=h x List.mem_cons_self
  rw [frT_cons]; omega
theorem wGo_neg:∀ (l:List Stn) (out:Int) (b:Stn) (k:Nat),wGo out b k l < 0→out < 0∧∀ x∈l,¬ 0 < x.fr
 | [],out,_,_,h=>⟨h,fun _ h=>by cases h⟩
 | x::r,out,b,k,h=>by
  unfold wGo at h
  cases hb:better out b x
  ·rw [hb] at h
   obtain ⟨h1,h2⟩:=wGo_neg r out b (k+1) h
   refine ⟨h1,fun y hy=>?_⟩
   rcases List.mem_cons.1 hy with rfl | hy
   ·intro h3
    unfold better at hb
    rw [decide_eq_true h3,decide_eq_true h1] at hb
    cases hb
   ·exact h2 y hy
  ·rw [hb] at h
   have:=(wGo_neg r (k:Int) x (k+1) h).1
   omega
theorem win_neg {l:List Stn} (ho:∀ x∈l,x.ok) (h:winF l < 0):frT l=0:=frT_none ho (wGo_neg l _ _ _ h).2
theorem frT_aft (w:Int):∀ (l:List Stn) (k:Nat),frT (aftGo w k l)=frT l - (if (k:Int)≤w∧w < (k:Int)+(l.length:Int) then 1 else 0)
 | [],k=>by
  rw [if_neg (by simp only [List.length_nil]; omega)]; rfl
 | x::r,k=>by
  unfold aftGo
  rw [frT_cons,frT_cons,frT_aft w r (k+1)]
  simp only [List.length_cons]
  by_cases hk:(k:Int)=w
  ·have e:stnAft (k:Int) w x=⟨x.nm,x.pri,x.fr - 1,0⟩:=aft1 (by rw [beq_iff_eq]; exact hk)
   rw [e,if_neg (by omega),if_pos (by omega)]
   show x.fr - 1+_=_
   omega
  ·have e : (stnAft (k : Int) w x).fr = x.fr := by
    have hf:((k:Int)==w)=false:=by rw [beq_eq_false_iff_ne]; exact hk
    by_cases h2:0 < x.fr
    ·rw [aft3 hf h2]
    ·rw [aft2 hf h2]
   rw [e]
   by_cases h3:((k+1:Nat):Int)≤w∧w < ((k+1:Nat):Int)+(r.length:Int)
   ·rw [if_pos h3,if_pos (by omega)]; omega
   ·rw [if_neg h3,if_neg (by omega)]; omega
def nowA (c:List Bool) (l:List Stn):Nat→List Stn
 | 0=>l
 | i+1=>accN (accW c i (nowA c l i)) (nowA c l i)
def winA (c:List Bool) (l:List Stn) (i:Nat):Int:=accW c i (nowA c l i)
theorem acc_at (c:List Bool) (l:List Stn):∀ (m i j:Nat),j < m→(accGo c m i (nowA c l i))[j]?=some (winA c l (i+j))
 | 0,_,_,h=>absurd h (Nat.not_lt_zero _)
 | m+1,i,0,_=>rfl
 | m+1,i,j+1,h=>by
  show (accGo c m (i+1) (nowA c l (i+1)))[j]?=_
  rw [acc_at c l m (i+1) j (by omega),show i+1+j=i+(j+1) by omega]
theorem acc_len (c:List Bool):∀ (m i:Nat) (l:List Stn),(accGo c m i l).length=m
 | 0,_,_=>rfl
 | m+1,i,l=>by simp [accGo,acc_len c m]
def sentA (c:List Bool) (l:List Stn):Nat→Nat
 | 0=>0
 | i+1=>bif decide (0≤winA c l i) then sentA c l i+1 else sentA c l i
theorem now_ok {c:List Bool} {l:List Stn} (ho:∀ x∈l,x.ok):∀ i,(∀ x∈nowA c l i,x.ok)∧(nowA c l i).length=l.length
 | 0=>⟨ho,rfl⟩
 | i+1=>by
  obtain ⟨h1,h2⟩:=now_ok ho i
  exact ⟨(accN_ok h1).1,(accN_ok h1).2.trans h2⟩
theorem win_lt {l:List Stn} (h:0≤winF l):winF l < (l.length:Int):=by
 rcases win_fr l with e | ⟨_,x,hx,_⟩
 ·omega
 ·have:=(List.getElem?_eq_some_iff.1 hx).1; omega
theorem winA_lt {c:List Bool} {l:List Stn} (ho:∀ x∈l,x.ok) (i:Nat):winA c l i=-1∨(0≤winA c l i∧winA c l i < (l.length:Int)):=by
 unfold winA accW
 cases cAt c i
 ·exact .inl rfl
 ·show winF _=-1∨(0≤winF _∧winF _ < _)
  rcases win_fr (nowA c l i) with e | ⟨h,_⟩
  ·exact .inl e
  ·refine .inr ⟨h,?_⟩
   have:=win_lt h
   rw [(now_ok ho i).2] at this; exact this
theorem sent_is {c:List Bool} {l:List Stn} (ho:∀ x∈l,x.ok):∀ i,frT (nowA c l i)+(sentA c l i:Int)=frT l
 | 0=>by show frT l+0=frT l; omega
 | i+1=>by
  have ih:=sent_is (c:=c) ho i
  show frT (accN (winA c l i) (nowA c l i))+((bif decide (0≤winA c l i) then sentA c l i+1 else sentA c l i:Nat):Int)=_
  unfold accN
  by_cases h:0≤winA c l i
  ·rw [decide_eq_true h]
   show frT (aftGo (winA c l i) 0 (nowA c l i))+((sentA c l i+1:Nat):Int)=_
   have hl:winA c l i < ((nowA c l i).length:Int):=by
    rw [(now_ok ho i).2]
    rcases winA_lt (c:=c) ho i with e | e
    ·omega
    ·exact e.2
   rw [frT_aft,if_pos (by omega)]; omega
  ·rw [decide_eq_false h]; exact ih
theorem winA_closed {c:List Bool} {l:List Stn} {i:Nat} (h:cAt c i=false):winA c l i=-1:=by unfold winA accW; rw [h]; rfl
theorem winA_open {c:List Bool} {l:List Stn} {i:Nat} (ho:∀ x∈l,x.ok) (h:cAt c i=true):(winA c l i=-1↔(sentA c l i:Int)=frT l):=by
 have hs:=sent_is (c:=c) ho i
 have h1:=(now_ok (c:=c) ho i).1
 have e:winA c l i=winF (nowA c l i):=by unfold winA accW; rw [h]; rfl
 rw [e]
 constructor
 ·intro hw
  have:=win_neg h1 (by omega)
  omega
 ·intro hf
  have hz:=frT_zero h1 (by omega)
  rcases win_fr (nowA c l i) with e | ⟨_,x,hx,hp⟩
  ·exact e
  ·have:=hz x (List.mem_of_getElem? hx); omega
theorem sent_min {c:List Bool} {l:List Stn} (ho:∀ x∈l,x.ok):∀ i,(sentA c l i:Int)=min (frT l) ((opnTo c 0 i).length:Int)
 | 0=>by
  have:=frT_nn ho
  show (0:Int)=min (frT l) 0
  omega
 | i+1=>by
  have ih:=sent_min (c:=c) ho i
  show ((bif decide (0≤winA c l i) then sentA c l i+1 else sentA c l i:Nat):Int)=_
  cases hc:cAt c i
  ·rw [winA_closed hc]
   have e:opnTo c 0 (i+1)=opnTo c 0 i:=by rw [opnTo,Nat.zero_add,hc]; rfl
   rw [e]; exact ih
  ·have e:opnTo c 0 (i+1)=opnTo c 0 i++[((0+i:Nat):Int)]:=by rw [opnTo,Nat.zero_add,hc]; rfl
   rw [e,List.length_append]
   simp only [List.length_singleton]
   have hw:=winA_open ho hc
   rcases winA_lt (c:=c) ho i with e2 | e2
   ·have:=hw.1 e2
    rw [e2,decide_eq_false (by omega)]
    show (sentA c l i:Int)=_
    omega
   ·have hne:¬ (sentA c l i:Int)=frT l:=fun h=>by have:=hw.2 h; omega
    rw [decide_eq_true e2.1]
    show ((sentA c l i+1:Nat):Int)=_
    omega
theorem opn_pre (c:List Bool) (f k:Nat):∀ j,opnTo c f k <+: opnTo c f (k+j)
 | 0=>List.prefix_refl _
 | j+1=>by
  have h:=opn_pre c f k j
  rw [show k+(j+1)=(k+j)+1 by omega,opnTo]
  cases cAt c (f+(k+j))
  ·exact h
  ·exact h.trans (List.prefix_append _ _)
theorem opnF_to {c:List Bool} (hc:c.contains true=true) (f n:Nat):∀ (m k:Nat) (acc:List Int),n * c.length - k=m→opnI c f n (k,acc)→acc.length≤n→∃ k2,opnF c f n=opnTo c f k2∧(opnTo c f k2).length=n
 | 0,k,acc,hm,hi,hl=>by
  have h1:acc=opnTo c f k:=hi.1
  by_cases h:(acc.length:Int) < (n:Int)
  ·have:=(opnI_step hc hi h).1; omega
  ·exact ⟨k,by rw [opnI_end hi h,h1],by rw [← h1]; omega⟩
 | m+1,k,acc,hm,hi,hl=>by
  have h1:acc=opnTo c f k:=hi.1
  by_cases h:(acc.length:Int) < (n:Int)
  ·have h2:=(opnI_step hc hi h).2
   refine opnF_to hc f n m (k+1) _ (by omega) h2 ?_
   cases cAt c (f+k)
   ·exact hl
   ·show (acc++[_]).length≤n
    rw [List.length_append]; simp only [List.length_singleton]; omega
  ·exact ⟨k,by rw [opnI_end hi h,h1],by rw [← h1]; omega⟩
theorem opnF_is {c:List Bool} (hc:c.contains true=true) {f n k:Nat} (hk:(opnTo c f k).length=n):opnF c f n=opnTo c f k:=by
 obtain ⟨k2,h1,h2⟩:=opnF_to hc f n _ 0 [] rfl (opnI_start c f n) (Nat.zero_le _)
 rw [h1]
 rcases Nat.le_total k k2 with h | h
 ·have hp:=opn_pre c f k (k2 - k)
  rw [show k+(k2 - k)=k2 by omega] at hp
  exact (hp.eq_of_length (by omega)).symm
 ·have hp:=opn_pre c f k2 (k - k2)
  rw [show k2+(k - k2)=k by omega] at hp
  exact hp.eq_of_length (by omega)
theorem opn_at {c:List Bool} {n i:Nat} (h:cAt c i=true) (hi:i < n):(opnTo c 0 i).length < (opnTo c 0 n).length∧(opnTo c 0 n)[(opnTo c 0 i).length]?=some (i:Int):=by
 have hp:=opn_pre c 0 (i+1) (n - (i+1))
 rw [show i+1+(n - (i+1))=n by omega] at hp
 have e:opnTo c 0 (i+1)=opnTo c 0 i++[(i:Int)]:=by rw [opnTo,Nat.zero_add,h]; rfl
 obtain ⟨t,ht⟩:=hp
 rw [e] at ht
 rw [← ht]
 constructor
 ·simp only [List.length_append,List.length_singleton]; omega
 ·rw [List.append_assoc,List.getElem?_append_right (Nat.le_refl _),Nat.sub_self]; rfl
theorem opn_part {c:List Bool}:∀ k,k≤c.length→(opnTo c 0 k).length=(c.take k).count true
 | 0,_=>rfl
 | k+1,h=>by
  have ih:=opn_part (c:=c) k (by omega)
  have hk:k < c.length:=by omega
  have e:cAt c k=c[k]:=by unfold cAt; rw [Nat.mod_eq_of_lt hk,List.getElem?_eq_getElem hk]; rfl
  rw [List.take_succ_eq_append_getElem hk,List.count_append,← ih,opnTo,Nat.zero_add,e]
  cases c[k] <;> simp
theorem cAt_more (c:List Bool) (k:Nat):cAt c (c.length+k)=cAt c k:=by unfold cAt; rw [Nat.add_mod_left]
theorem opn_more2 (c:List Bool):∀ k,(opnTo c 0 (c.length+k)).length=(opnTo c 0 c.length).length+(opnTo c 0 k).length
 | 0=>rfl
 | k+1=>by
  have ih:=opn_more2 c k
  rw [show c.length+(k+1)=(c.length+k)+1 by omega,opnTo,opnTo,Nat.zero_add,Nat.zero_add,cAt_more]
  cases cAt c k
  ·exact ih
  ·show (_++[_]).length=_+(_++[_]).length
   simp only [List.length_append,List.length_singleton]; omega
theorem opn_twice (c:List Bool):(opnTo c 0 (2 * c.length)).length=2 * c.count true:=by
 rw [show 2 * c.length=c.length+c.length by omega,opn_more2,opn_part c.length (Nat.le_refl _),List.take_length]; omega
end Vc
