import Derived.Test.YtcplcokecclehaaG18
set_option linter.unusedSectionVars false
set_option linter.unusedVariables false
set_option linter.unusedSimpArgs false
set_option maxRecDepth 10000
set_option maxHeartbeats 4000000
namespace Vc
open Go Go.Proofs
def stOf (i:Nat) (p:Int × Int):Stn:=⟨[115,48+UInt8.ofNat i],p.1 % 4,p.2 % 7,0⟩
def stTo (l:List (Int × Int)):Nat→List Stn
 | 0=>[]
 | k+1=>stTo l k++[stOf k (l[k]?.getD (0,0))]
theorem stTo_len (l:List (Int × Int)):∀ k,(stTo l k).length=k
 | 0=>rfl
 | k+1=>by rw [stTo,List.length_append,stTo_len l k]; rfl
theorem frT_snoc (l:List Stn) (x:Stn):frT (l++[x])=frT l+x.fr:=by
 unfold frT; rw [List.map_append,List.sum_append]; simp
theorem stTo_ok (l:List (Int × Int)):∀ k,∀ x∈stTo l k,x.ok
 | 0=>fun _ h=>by cases h
 | k+1=>fun x hx=>by
  rcases List.mem_append.1 hx with hx | hx
  ·exact stTo_ok l k x hx
  ·rcases List.mem_singleton.1 hx with rfl
   unfold stOf Stn.ok
   show (0≤(l[k]?.getD (0,0)).1 % 4∧(l[k]?.getD (0,0)).1 % 4≤3)∧(0≤(l[k]?.getD (0,0)).2 % 7∧(l[k]?.getD (0,0)).2 % 7≤64)∧((0:Int)≤0∧(0:Int)≤1000)
   omega
theorem frT_le (l:List (Int × Int)):∀ k,0≤frT (stTo l k)∧frT (stTo l k)≤6 * (k:Int)
 | 0=>⟨Int.le_refl 0,Int.le_refl 0⟩
 | k+1=>by
  have ih:=frT_le l k
  rw [stTo,frT_snoc]
  have e:(stOf k (l[k]?.getD (0,0))).fr=(l[k]?.getD (0,0)).2 % 7:=rfl
  rw [e]; omega
theorem v3b {n : Nat} {c : List Bool} {m : Int} {l : List (Int × Int)} {Q : AExit → St → Prop} (hl : l.length ≤ 4) (hlb : ∀ p ∈ l, (0 ≤ p.1 ∧ p.1 ≤ 255) ∧ (0 ≤ p.2 ∧ p.2 ≤ 255))
  (hQ:Q .normal ⟨[(11,.sl 2 (blsD c).length),(12,.d (.int .i64 m)),(18,.sl 5 (stns (stTo l l.length)).length),(19,.d (.int .i64 (frT (stTo l l.length))))],[.none,.none,.row 4 1 (blsD c) false,.none,.none,.row 45 4 (stns (stTo l l.length)) false,.none,.none,.none,.none,.none]⟩) :
  vc Try.prog n seg3b ⟨[(11,.sl 2 (blsD c).length),(12,.d (.int .i64 m)),(18,.nils 4),(19,.d (.int .i64 0)),(147,.d (.slice 2 (u8ps l))),(148,.d (.int .i64 ((u8ps l).length:Int))),(149,.d (.int .i64 0))],[.none,.none,.row 4 1 (blsD c) false,.none,.none,.none,.none,.none,.none,.none,.none]⟩ Q:=by
 unfold seg3b
 have hll:=u8ps_len l
 rotate_left
 refine loop_st (fun k:Nat=>⟨[(11,.sl 2 (blsD c).length),(12,.d (.int .i64 m)),(18,.sl 5 (stns (stTo l k)).length),(19,.d (.int .i64 (frT (stTo l k)))),(147,.d (.slice 2 (u8ps l))),(148,.d (.int .i64 ((u8ps l).length:Int))),(149,.d (.int .i64 k))],[.none,.none,.row 4 1 (blsD c) false,.none,.none,.row 45 4 (stns (stTo l k)) false,.none,.none,.none,.none,.none]⟩) (fun k=>k≤l.length) (fun k=>l.length - k) 0 rfl (Nat.zero_le _) ?_
 intro k hk
 have hk:k≤l.length:=hk
 dsimp only
 have hsl:(stns (stTo l k)).length=k:=by rw [stns_len,stTo_len]
 have hfb:=frT_le l k
 by_cases hkn:k < l.length
 ·refine Exists.elim (get_lt l (k:=k) hkn) fun p hp=>?_
  obtain ⟨p1,p2⟩:=p
  have hp1:=u8ps_at hp
  have hpb:=hlb _ (List.mem_of_getElem? hp)
  have hpb:(0≤p1∧p1≤255)∧(0≤p2∧p2≤255):=hpb
  have w1:IntKind.i64.wrap p1=p1:=by rw [IntKind.wrap_i64]; omega
  have w2:IntKind.i64.wrap p2=p2:=by rw [IntKind.wrap_i64]; omega
  have w3:0≤IntKind.i64.wrap p1:=by omega
  have w4:0≤IntKind.i64.wrap p2:=by omega
  have w5:0≤IntKind.i64.wrap p2 % 7∧IntKind.i64.wrap p2 % 7≤6:=by omega
  have c14_:=k14 (i:=k) (by omega)
  have hb1:(stns (stTo l k)).length+1≤2 ^ 47:=by omega
  have hb2:((stns (stTo l k)).length+1) * 40≤2 ^ 47:=by omega
  have fin:∀ (s:List Data) (f:Int),s=stns (stTo l (k+1))→f=frT (stTo l (k+1))→∃ a':Nat,(a'≤l.length∧l.length - a' < l.length - k)∧(⟨[(11,.sl 2 (blsD c).length),(12,.d (.int .i64 m)),(18,.sl 5 s.length),(19,.d (.int .i64 f)),(147,.d (.slice 2 (u8ps l))),(148,.d (.int .i64 ((u8ps l).length:Int))),(149,.d (.int .i64 ((k:Int)+1)))],[.none,.none,.row 4 1 (blsD c) false,.none,.none,.row 45 4 s false,.none,.none,.none,.none,.none]⟩:St)=⟨[(11,.sl 2 (blsD c).length),(12,.d (.int .i64 m)),(18,.sl 5 (stns (stTo l a')).length),(19,.d (.int .i64 (frT (stTo l a')))),(147,.d (.slice 2 (u8ps l))),(148,.d (.int .i64 ((u8ps l).length:Int))),(149,.d (.int .i64 (a':Nat)))],[.none,.none,.row 4 1 (blsD c) false,.none,.none,.row 45 4 (stns (stTo l a')) false,.none,.none,.none,.none,.none]⟩:=fun s f e e2=>⟨k+1,⟨by omega,by omega⟩,by rw [e,e2]; rfl⟩
  have es:stns (stTo l (k+1))=stns (stTo l k)++[.agg [.str ([115]++[48+UInt8.ofNat k]),.int .i64 (p1 % 4),.int .i64 (p2 % 7),.int .i64 0]]:=by
   rw [stTo,hp]; unfold stns; rw [List.map_append]; rfl
  have ef:frT (stTo l (k+1))=frT (stTo l k)+p2 % 7:=by rw [stTo,frT_snoc,hp]; rfl
  rw [es,ef] at fin
  refine And.intro rfl ?_
  refine brk_lt (fun t1=>?_) (fun t1=>?_)
  refine ix_at hp1 ?_ ?_
  (show (0:Int)≤(↑k:Int); omega)
  refine Exists.intro _ (And.intro c14_ ?_)
  refine And.intro ?_ ?_
  (show (1:Nat)+(1:Nat)≤(9223372036854775807:Nat); omega)
  refine And.intro ?_ ?_
  refine And.intro ?_ ?_
  (show (0:Int)≤(0:Int); omega)
  (show (0:Int) < (↑(2:Nat):Int); omega)
  refine Exists.intro _ (And.intro rfl ?_)
  refine ar_rem ?_ ?_
  refine And.intro ?_ ?_
  assumption
  (show (1:Int)≤(4:Int); omega)
  refine And.intro ?_ ?_
  refine And.intro ?_ ?_
  (show (0:Int)≤(1:Int); omega)
  (show (1:Int) < (↑(2:Nat):Int); omega)
  refine Exists.intro _ (And.intro rfl ?_)
  refine ar_rem ?_ ?_
  refine And.intro ?_ ?_
  assumption
  (show (1:Int)≤(7:Int); omega)
  refine And.intro rfl ?_
  refine And.intro rfl ?_
  refine And.intro rfl ?_
  refine And.intro ?_ ?_
  refine And.intro ?_ ?_
  exact rfl
  refine And.intro ?_ ?_
  exact rfl
  refine And.intro ?_ ?_
  exact rfl
  refine And.intro ?_ ?_
  assumption
  assumption
  refine And.intro ?_ ?_
  refine And.intro ?_ ?_
  (show (0:Int)≤(1:Int); omega)
  (show (1:Int) < (↑(2:Nat):Int); omega)
  refine Exists.intro _ (And.intro rfl ?_)
  refine ar_rem ?_ ?_
  refine And.intro ?_ ?_
  assumption
  (show (1:Int)≤(7:Int); omega)
  refine ar_add ?_ ?_
  refine And.intro ?_ ?_
  (show (-9223372036854775808:Int)≤frT (stTo l k)+IntKind.wrap IntKind.i64 p2 % (7:Int); omega)
  (show frT (stTo l k)+IntKind.wrap IntKind.i64 p2 % (7:Int)≤(9223372036854775807:Int); omega)
  refine ar_add ?_ ?_
  refine And.intro ?_ ?_
  (show (-9223372036854775808:Int)≤(↑k:Int)+(1:Int); omega)
  (show (↑k:Int)+(1:Int)≤(9223372036854775807:Int); omega)
  rotate_left
  (exfalso; omega)
  all_goals exact fin _ _ (by rw [w1,w2]; rfl) (by rw [w2])
 ·have e7:k=l.length:=by omega
  subst e7
  refine And.intro rfl ?_
  refine brk_lt (fun t1=>?_) (fun t1=>?_)
  (exfalso; omega)
  rotate_left
  all_goals exact hQ
theorem v3c {n : Nat} {c : List Bool} {m : Int} {l : List Stn} {O W : List Int} {Q : AExit → St → Prop} (ho : ∀ x ∈ l, x.ok) (hc1 : 1 ≤ c.length) (hc8 : c.length ≤ 8) (hl : l.length ≤ 4)
  (hO:O=opnTo c 0 (2 * c.length)) (hW:W=accGo c (2 * c.length) 0 l)
  (hQ:Q .normal ⟨[(12,.d (.int .i64 m)),(19,.d (.int .i64 (frT l))),(25,.d (.slice 1 (ints O))),(27,.d (.int .i64 (min (frT l) (O.length:Int)))),(28,.d (.int .i64 (O.length:Int)))],[.none,.none,.none,.none,.none,.none,.none,.none,.none,.none,.none]⟩) :
  vc Try.prog n seg3c ⟨[(11,.sl 2 (blsD c).length),(12,.d (.int .i64 m)),(18,.sl 5 (stns l).length),(19,.d (.int .i64 (frT l))),(25,.d (.slice 1 (ints O))),(27,.d (.int .i64 0)),(28,.d (.int .i64 0)),(216,.d (.slice 1 (ints W))),(217,.d (.int .i64 ((ints W).length:Int))),(218,.d (.int .i64 0))],[.none,.none,.row 4 1 (blsD c) false,.none,.none,.row 45 4 (stns l) true,.none,.none,.none,.none,.none]⟩ Q:=by
 unfold seg3c
 have hWl:W.length=2 * c.length:=by rw [hW]; exact acc_len c _ _ _
 have hil:(ints W).length=W.length:=ints_len W
 have hol:(ints O).length=O.length:=ints_len O
 have hOl:O.length≤2 * c.length:=by rw [hO]; exact opn_len_le c 0 _
 have hbl:=bls_len c
 have hsl:=stns_len l
 rotate_left
 refine loop_st (fun i:Nat=>⟨[(11,.sl 2 (blsD c).length),(12,.d (.int .i64 m)),(18,.sl 5 (stns l).length),(19,.d (.int .i64 (frT l))),(25,.d (.slice 1 (ints O))),(27,.d (.int .i64 (sentA c l i:Nat))),(28,.d (.int .i64 ((opnTo c 0 i).length:Nat))),(216,.d (.slice 1 (ints W))),(217,.d (.int .i64 ((ints W).length:Int))),(218,.d (.int .i64 i))],[.none,.none,.row 4 1 (blsD c) false,.none,.none,.row 45 4 (stns l) true,.none,.none,.none,.none,.none]⟩) (fun i=>i≤2 * c.length) (fun i=>2 * c.length - i) 0 rfl (Nat.zero_le _) ?_
 intro i hi
 have hi:i≤2 * c.length:=hi
 dsimp only
 by_cases hin:i < 2 * c.length
 ·have hw1 : (ints W)[((i : Int)).toNat]? = some (.int .i64 (winA c l i)) := ints_get (by
   rw [hW]
   have h2:=acc_at c l (2 * c.length) 0 i hin
   rw [Nat.zero_add] at h2; exact h2)
  have hix:=cAt_ix (c:=c) i hc1
  have hwl:=winA_lt (c:=c) ho i
  have hm1:0≤(i:Int) % ((blsD c).length:Int):=Int.emod_nonneg _ (by omega)
  have hm2:(i:Int) % ((blsD c).length:Int) < ((blsD c).length:Int):=Int.emod_lt_of_pos _ (by omega)
  have fin:∀ (s k:Int),s=(sentA c l (i+1):Nat)→k=((opnTo c 0 (i+1)).length:Nat)→∃ a':Nat,(a'≤2 * c.length∧2 * c.length - a' < 2 * c.length - i)∧(⟨[(11,.sl 2 (blsD c).length),(12,.d (.int .i64 m)),(18,.sl 5 (stns l).length),(19,.d (.int .i64 (frT l))),(25,.d (.slice 1 (ints O))),(27,.d (.int .i64 s)),(28,.d (.int .i64 k)),(216,.d (.slice 1 (ints W))),(217,.d (.int .i64 ((ints W).length:Int))),(218,.d (.int .i64 ((i:Int)+1)))],[.none,.none,.row 4 1 (blsD c) false,.none,.none,.row 45 4 (stns l) true,.none,.none,.none,.none,.none]⟩:St)=⟨[(11,.sl 2 (blsD c).length),(12,.d (.int .i64 m)),(18,.sl 5 (stns l).length),(19,.d (.int .i64 (frT l))),(25,.d (.slice 1 (ints O))),(27,.d (.int .i64 (sentA c l a':Nat))),(28,.d (.int .i64 ((opnTo c 0 a').length:Nat))),(216,.d (.slice 1 (ints W))),(217,.d (.int .i64 ((ints W).length:Int))),(218,.d (.int .i64 (a':Nat)))],[.none,.none,.row 4 1 (blsD c) false,.none,.none,.row 45 4 (stns l) true,.none,.none,.none,.none,.none]⟩:=fun s k e e2=>⟨i+1,⟨by omega,by omega⟩,by rw [e,e2]; rfl⟩
  have esn:sentA c l (i+1)=bif decide (0≤winA c l i) then sentA c l i+1 else sentA c l i:=rfl
  have hkl:=opn_len_le c 0 i
  have hsm:=sent_min (c:=c) ho i
  cases hc:cAt c i
  ·have ew:=winA_closed (l:=l) hc
   have eo:opnTo c 0 (i+1)=opnTo c 0 i:=by rw [opnTo,Nat.zero_add,hc]; rfl
   rw [ew] at hw1 esn
   rw [hc] at hix
   have esn:sentA c l (i+1)=sentA c l i:=esn
   rw [esn,eo] at fin
   generalize sentA c l i=s at *
   generalize (opnTo c 0 i).length=k at *
   refine And.intro rfl ?_
   refine brk_lt (fun t1=>?_) (fun t1=>?_)
   refine ix_at hw1 ?_ ?_
   (show (0:Int)≤(↑i:Int); omega)
   refine And.intro rfl ?_
   refine ar_rem ?_ ?_
   refine And.intro ?_ ?_
   (show (0:Int)≤(↑i:Int); omega)
   (show (1:Int)≤(↑(List.length (blsD c)):Int); omega)
   refine And.intro ?_ ?_
   refine And.intro ?_ ?_
   exact rfl
   refine And.intro ?_ ?_
   exact rfl
   refine And.intro ?_ ?_
   assumption
   assumption
   refine And.intro rfl ?_
   refine Exists.intro _ (And.intro hix ?_)
   refine And.intro rfl ?_
   refine ar_add ?_ ?_
   refine And.intro ?_ ?_
   (show (-9223372036854775808:Int)≤(↑i:Int)+(1:Int); omega)
   (show (↑i:Int)+(1:Int)≤(9223372036854775807:Int); omega)
   rotate_left
   (exfalso; omega)
   all_goals exact fin _ _ rfl rfl
  ·have eo:opnTo c 0 (i+1)=opnTo c 0 i++[(i:Int)]:=by rw [opnTo,Nat.zero_add,hc]; rfl
   have hat:=opn_at hc hin
   rw [← hO] at hat
   have ho1:(ints O)[(((opnTo c 0 i).length:Nat):Int).toNat]?=some (.int .i64 (i:Int)):=ints_get hat.2
   have hat1:=hat.1
   have hop:=winA_open ho hc
   rw [hc] at hix
   have elo:(opnTo c 0 (i+1)).length=(opnTo c 0 i).length+1:=by rw [eo,List.length_append]; rfl
   rw [elo] at fin
   rcases hwl with ew | ew
   ·have hsf:=hop.1 ew
    rw [ew] at hw1 esn
    have esn:sentA c l (i+1)=sentA c l i:=esn
    rw [esn] at fin
    generalize sentA c l i=s at *
    generalize (opnTo c 0 i).length=k at *
    refine And.intro rfl ?_
    refine brk_lt (fun t1=>?_) (fun t1=>?_)
    refine ix_at hw1 ?_ ?_
    (show (0:Int)≤(↑i:Int); omega)
    refine And.intro rfl ?_
    refine ar_rem ?_ ?_
    refine And.intro ?_ ?_
    (show (0:Int)≤(↑i:Int); omega)
    (show (1:Int)≤(↑(List.length (blsD c)):Int); omega)
    refine And.intro ?_ ?_
    refine And.intro ?_ ?_
    exact rfl
    refine And.intro ?_ ?_
    exact rfl
    refine And.intro ?_ ?_
    assumption
    assumption
    refine And.intro rfl ?_
    refine Exists.intro _ (And.intro hix ?_)
    refine And.intro rfl ?_
    refine brk_le (fun t2=>?_) (fun t2=>?_)
    (exfalso; omega)
    refine ix_at ho1 ?_ ?_
    (show (0:Int)≤(↑k:Int); omega)
    refine And.intro rfl ?_
    refine brk_ne (fun t3=>?_) (fun t3=>?_)
    (exfalso; omega)
    refine ar_add ?_ ?_
    refine And.intro ?_ ?_
    (show (-9223372036854775808:Int)≤(↑k:Int)+(1:Int); omega)
    (show (↑k:Int)+(1:Int)≤(9223372036854775807:Int); omega)
    refine And.intro rfl ?_
    refine And.intro rfl ?_
    refine And.intro rfl ?_
    refine brk_le (fun t4=>?_) (fun t4=>?_)
    (exfalso; omega)
    refine And.intro rfl ?_
    refine And.intro rfl ?_
    refine brk_intro (fun t5=>?_) (fun t5=>?_)
    replace t5:(((-1:Int)==(-1:Int)) != ((↑s:Int)==frT l))=true:=t5
    rotate_left
    replace t5:(((-1:Int)==(-1:Int)) != ((↑s:Int)==frT l))=false:=t5
    refine And.intro rfl ?_
    refine ar_add ?_ ?_
    refine And.intro ?_ ?_
    (show (-9223372036854775808:Int)≤(↑i:Int)+(1:Int); omega)
    (show (↑i:Int)+(1:Int)≤(9223372036854775807:Int); omega)
    rotate_left
    (exfalso; omega)
    ·exact absurd t5 (by rw [show ((s:Int)==frT l)=true from beq_iff_eq.2 hsf]; decide)
    ·exact fin _ _ rfl rfl
   ·have hsf:¬ (sentA c l i:Int)=frT l:=fun e=>by have:=hop.2 e; omega
    rw [decide_eq_true ew.1] at esn
    have esn:sentA c l (i+1)=sentA c l i+1:=esn
    rw [esn] at fin
    generalize sentA c l i=s at *
    generalize (opnTo c 0 i).length=k at *
    generalize winA c l i=w at *
    refine And.intro rfl ?_
    refine brk_lt (fun t1=>?_) (fun t1=>?_)
    refine ix_at hw1 ?_ ?_
    (show (0:Int)≤(↑i:Int); omega)
    refine And.intro rfl ?_
    refine ar_rem ?_ ?_
    refine And.intro ?_ ?_
    (show (0:Int)≤(↑i:Int); omega)
    (show (1:Int)≤(↑(List.length (blsD c)):Int); omega)
    refine And.intro ?_ ?_
    refine And.intro ?_ ?_
    exact rfl
    refine And.intro ?_ ?_
    exact rfl
    refine And.intro ?_ ?_
    assumption
    assumption
    refine And.intro rfl ?_
    refine Exists.intro _ (And.intro hix ?_)
    refine And.intro rfl ?_
    refine brk_le (fun t2=>?_) (fun t2=>?_)
    (exfalso; omega)
    refine ix_at ho1 ?_ ?_
    (show (0:Int)≤(↑k:Int); omega)
    refine And.intro rfl ?_
    refine brk_ne (fun t3=>?_) (fun t3=>?_)
    (exfalso; omega)
    refine ar_add ?_ ?_
    refine And.intro ?_ ?_
    (show (-9223372036854775808:Int)≤(↑k:Int)+(1:Int); omega)
    (show (↑k:Int)+(1:Int)≤(9223372036854775807:Int); omega)
    refine And.intro rfl ?_
    refine brk_lt (fun t4=>?_) (fun t4=>?_)
    (exfalso; omega)
    refine And.intro rfl ?_
    refine And.intro rfl ?_
    refine brk_le (fun t5=>?_) (fun t5=>?_)
    (exfalso; omega)
    refine And.intro rfl ?_
    refine And.intro rfl ?_
    refine brk_intro (fun t6=>?_) (fun t6=>?_)
    replace t6:((w==(-1:Int)) != ((↑s:Int)==frT l))=true:=t6
    rotate_left
    replace t6:((w==(-1:Int)) != ((↑s:Int)==frT l))=false:=t6
    refine And.intro rfl ?_
    refine brk_le (fun t7=>?_) (fun t7=>?_)
    refine ar_add ?_ ?_
    refine And.intro ?_ ?_
    (show (-9223372036854775808:Int)≤(↑s:Int)+(1:Int); omega)
    (show (↑s:Int)+(1:Int)≤(9223372036854775807:Int); omega)
    refine ar_add ?_ ?_
    refine And.intro ?_ ?_
    (show (-9223372036854775808:Int)≤(↑i:Int)+(1:Int); omega)
    (show (↑i:Int)+(1:Int)≤(9223372036854775807:Int); omega)
    rotate_left
    (exfalso; omega)
    (exfalso; omega)
    ·exact absurd t6 (by rw [show ((s:Int)==frT l)=false from beq_eq_false_iff_ne.2 hsf,show (w==-1)=false from beq_eq_false_iff_ne.2 (by omega)]; decide)
    ·exact fin _ _ rfl rfl
 ·have e7:i=2 * c.length:=by omega
  have es:=sent_min (c:=c) ho i
  subst e7
  rw [← hO] at es
  have fin:∀ s:Int,s=min (frT l) (O.length:Int)→Q .normal ⟨[(12,.d (.int .i64 m)),(19,.d (.int .i64 (frT l))),(25,.d (.slice 1 (ints O))),(27,.d (.int .i64 s)),(28,.d (.int .i64 (O.length:Int)))],[.none,.none,.none,.none,.none,.none,.none,.none,.none,.none,.none]⟩:=fun s e=>by rw [e]; exact hQ
  rw [← hO]
  refine And.intro rfl ?_
  refine brk_lt (fun t1=>?_) (fun t1=>?_)
  (exfalso; omega)
  rotate_left
  all_goals exact fin _ es
end Vc
