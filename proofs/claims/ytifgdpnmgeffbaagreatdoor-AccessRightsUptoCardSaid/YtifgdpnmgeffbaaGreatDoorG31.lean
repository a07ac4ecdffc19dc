import Derived.Test.YtifgdpnmgeffbaaGreatDoorG10
import Derived.Test.YtifgdpnmgeffbaaGreatDoorG07
import Derived.Test.YtifgdpnmgeffbaaGreatDoorG11
import Derived.Test.YtifgdpnmgeffbaaGreatDoorG20
set_option linter.unusedSectionVars false
set_option linter.unusedVariables false
set_option linter.unusedSimpArgs false
namespace Vc
open Go Go.Proofs
theorem int_fit {k:IntKind} {r:List CT} {ds:List Data} (h:Fits' (.int k::r) ds):∃ n t,ds=.int k n::t∧(Lit.int k n).wf=true∧Fits' r t:=by
 simp only [Fits',Fit] at h
 obtain ⟨d,t,rfl,⟨n,rfl,hn⟩,ht⟩:=h
 exact ⟨n,t,rfl,hn,ht⟩
theorem i64_fit {r:List CT} {ds:List Data} (h:Fits' (.int .i64::r) ds):∃ (n:Int) (t:List Data),ds=.int .i64 n::t∧(-9223372036854775808≤n∧n≤9223372036854775807)∧Fits' r t:=by
 obtain ⟨n,t,rfl,hn,ht⟩:=int_fit h
 refine ⟨n,t,rfl,?_,ht⟩
 simp [Lit.wf] at hn
 have h1:IntKind.i64.min=-9223372036854775808:=rfl
 have h2:IntKind.i64.max=9223372036854775807:=rfl
 omega
theorem str_fit {r:List CT} {ds:List Data} (h:Fits' (.str::r) ds):∃ b t,ds=.str b::t∧Fits' r t:=by
 simp only [Fits',Fit] at h
 obtain ⟨d,t,rfl,⟨b,rfl⟩,ht⟩:=h
 exact ⟨b,t,rfl,ht⟩
theorem fits_nil {ds:List Vc.Data} (h:Fits' [] ds):ds=[]:=by simpa only [Fits'] using h
theorem ints_fit:∀ {es:List Data},(∀ e∈es,Fits' [.int .i64] [e])→∃ l:List Int,es=ints l
 | [],_=>⟨[],rfl⟩
 | e::r,h=>by
  obtain ⟨c,t,h1,_,_⟩:=i64_fit (h e List.mem_cons_self)
  obtain ⟨b,rfl⟩:=ints_fit (es:=r) fun x hx=>h x (List.mem_cons_of_mem _ hx)
  cases h1
  exact ⟨c::b,rfl⟩
theorem intl_fit {r:List CT} {ds:List Data} (h:Fits' (.sl false [.int .i64]::r) ds):∃ (b:List Int) (t:List Data),ds=.slice 1 (ints b)::t∧Fits' r t:=by
 simp only [Fits'] at h
 obtain ⟨d,t,rfl,hd,ht⟩:=h
 simp only [Fit] at hd
 obtain ⟨es,rfl,he⟩:=hd
 obtain ⟨b,rfl⟩:=ints_fit (es:=es) fun e h=>by
  have:=he e h
  simpa [Fits',Fit] using this
 exact ⟨b,t,rfl,ht⟩
theorem wgts_ints:∀ (l:List Int),l.length≤wgts (ints l)
 | []=>Nat.zero_le _
 | x::r=>by
  have h:=wgts_ints r
  have e:wgts (ints (x::r))=1+wgts (ints r):=rfl
  rw [e]; simp only [List.length_cons]; omega
end Vc
namespace Vc
open Go Go.Proofs
theorem obs_fit:∀ {es:List Data},(∀ e∈es,∃ ds,e=.agg ds∧Fits' [.str,.str] ds)→∃ l:List Ob,es=obs l
 | [],_=>⟨[],rfl⟩
 | e::r,h=>by
  obtain ⟨ds,rfl,hd⟩:=h e List.mem_cons_self
  obtain ⟨s,t,rfl,h1⟩:=str_fit hd
  obtain ⟨n,t2,rfl,h2⟩:=str_fit h1
  obtain rfl:=fits_nil h2
  obtain ⟨l,rfl⟩:=obs_fit (es:=r) fun x hx=>h x (List.mem_cons_of_mem _ hx)
  exact ⟨(s,n)::l,rfl⟩
theorem obsl_fit {r:List CT} {ds:List Data} (h:Fits' (.sl true [.str,.str]::r) ds):∃ (l:List Ob) (t:List Data),ds=.slice 2 (obs l)::t∧Fits' r t:=by
 simp only [Fits'] at h
 obtain ⟨d,t,rfl,hd,ht⟩:=h
 simp only [Fit] at hd
 obtain ⟨es,rfl,he⟩:=hd
 obtain ⟨l,rfl⟩:=obs_fit (es:=es) he
 exact ⟨l,t,rfl,ht⟩
theorem grs_fit:∀ {es:List Data},(∀ e∈es,∃ ds,e=.agg ds∧Fits' [.str,.str,.str,.str,.int .i64,.int .i64] ds)→∃ l:List Gr,es=grs l
 | [],_=>⟨[],rfl⟩
 | e::r,h=>by
  obtain ⟨ds,rfl,hd⟩:=h e List.mem_cons_self
  obtain ⟨a,t1,rfl,h1⟩:=str_fit hd
  obtain ⟨b,t2,rfl,h2⟩:=str_fit h1
  obtain ⟨c,t3,rfl,h3⟩:=str_fit h2
  obtain ⟨d,t4,rfl,h4⟩:=str_fit h3
  obtain ⟨m,t5,rfl,_,h5⟩:=i64_fit h4
  obtain ⟨n,t6,rfl,_,h6⟩:=i64_fit h5
  obtain rfl:=fits_nil h6
  obtain ⟨l,rfl⟩:=grs_fit (es:=r) fun x hx=>h x (List.mem_cons_of_mem _ hx)
  exact ⟨⟨a,b,c,d,m,n⟩::l,rfl⟩
theorem grsl_fit {r:List CT} {ds:List Data} (h:Fits' (.sl true [.str,.str,.str,.str,.int .i64,.int .i64]::r) ds):∃ (l:List Gr) (t:List Data),ds=.slice 6 (grs l)::t∧Fits' r t:=by
 simp only [Fits'] at h
 obtain ⟨d,t,rfl,hd,ht⟩:=h
 simp only [Fit] at hd
 obtain ⟨es,rfl,he⟩:=hd
 obtain ⟨l,rfl⟩:=grs_fit (es:=es) he
 exact ⟨l,t,rfl,ht⟩
theorem wgts_obs:∀ (l:List Ob),l.length≤wgts (obs l)
 | []=>Nat.zero_le _
 | x::r=>by
  have h:=wgts_obs r
  have e:wgts (obs (x::r))=((x.1.length+1)+((x.2.length+1)+0))+wgts (obs r):=rfl
  rw [e]; simp only [List.length_cons]; omega
theorem wgts_grs:∀ (l:List Gr),l.length≤wgts (grs l)
 | []=>Nat.zero_le _
 | x::r=>by
  have h:=wgts_grs r
  have e:wgts (grs (x::r))=((x.fr.length+1)+((x.to.length+1)+((x.ri.length+1)+((x.ob.length+1)+(1+(1+0))))))+wgts (grs r):=rfl
  rw [e]; simp only [List.length_cons]; omega
end Vc
set_option maxRecDepth 10000
set_option maxHeartbeats 4000000
namespace Vc
open Go Go.Proofs
def jr25:AFun:=⟨42,1,[.tmp 4],
 (.seq
 (.reg [0] [⟨some 2,.cbx 0 2 (.tmp 0),none⟩,
  ⟨some 4,.mov (.cst (.d (.int .i64 0))),none⟩])
 (.seq
  (.seq
  (.reg [] [⟨some 5,.mov (.cst (.d (.int .i64 0))),none⟩])
  (.post [1] [0]
   (.block 0
   (.keep [1,2,5] [0]
    (.loop
    (.post [1,2,5] []
     (.seq
     (.seq
      (.reg [] [⟨some 7,.mov (.tmp 5),none⟩,
       ⟨some 8,.mov (.tmp 1),none⟩,
       ⟨some 9,.len (.tmp 8),none⟩,
       ⟨some 10,.cmp .lss (.tmp 7) (.tmp 9),none⟩])
      (.cond (.tmp 10)
      .skip
      (.exit 0)))
     (.seq
      (.block 1
      (.seq
       (.regd [] [⟨some 13,.mov (.tmp 1),none⟩,
        ⟨some 14,.mov (.tmp 5),none⟩,
        ⟨some 15,.ixa 1 (.tmp 13) (.tmp 14),none⟩,
        ⟨some 16,.ld false 1 (.tmp 15),none⟩,
        ⟨some 17,.cmp .lss (.tmp 16) (.cst (.d (.int .i64 0))),none⟩,
        ⟨some 18,.mov (.tmp 17),none⟩,
        ⟨some 19,.mov (.tmp 1),some (18,false)⟩,
        ⟨some 20,.mov (.tmp 5),some (18,false)⟩,
        ⟨some 21,.ixa 1 (.tmp 19) (.tmp 20),some (18,false)⟩,
        ⟨some 22,.ld false 1 (.tmp 21),some (18,false)⟩,
        ⟨some 23,.fad 1 (.tmp 2),some (18,false)⟩,
        ⟨some 24,.ld false 1 (.tmp 23),some (18,false)⟩,
        ⟨some 25,.len (.tmp 24),some (18,false)⟩,
        ⟨some 26,.cmp .geq (.tmp 22) (.tmp 25),some (18,false)⟩,
        ⟨some 27,.pick (.tmp 18) (.cst (.d (.bool true))) (.tmp 26),none⟩] [(0,1),(6,7),(6,10),(7,10),(8,10),(9,10),(6,11),(7,11),(8,11),(9,11),(6,12),(7,12),(8,12),(9,12)])
       (.cond (.tmp 27)
       (.seq
        (.reg [] [⟨some 4,.mov (.cst (.d (.int .i64 10))),none⟩])
        .ret)
       .skip)))
      (.reg [] [⟨some 11,.mov (.tmp 5),none⟩,
       ⟨some 12,.arith .add .i64 (.tmp 11) (.cst (.d (.int .i64 1))),none⟩,
       ⟨some 5,.mov (.tmp 12),none⟩])))))))))
  (.seq
  (.seq
   (.reg [] [⟨some 6,.mov (.cst (.d (.int .i64 0))),none⟩])
   (.post [] [0]
   (.block 2
    (.keep [1,6] [0]
    (.loop
     (.post [1,6] []
     (.seq
      (.seq
      (.reg [] [⟨some 28,.mov (.tmp 6),none⟩,
       ⟨some 29,.mov (.tmp 1),none⟩,
       ⟨some 30,.len (.tmp 29),none⟩,
       ⟨some 31,.cmp .lss (.tmp 28) (.tmp 30),none⟩])
      (.cond (.tmp 31)
       .skip
       (.exit 2)))
      (.seq
      (.block 3
       (.seq
       (.regd [] [⟨some 34,.mov (.tmp 1),none⟩,
        ⟨some 35,.mov (.tmp 6),none⟩,
        ⟨some 36,.slc 1 (.tmp 34) none (some (.tmp 35)),none⟩,
        ⟨some 37,.mov (.tmp 1),none⟩,
        ⟨some 38,.mov (.tmp 6),none⟩,
        ⟨some 39,.ixa 1 (.tmp 37) (.tmp 38),none⟩,
        ⟨some 40,.ld false 1 (.tmp 39),none⟩,
        ⟨some 41,.call 94 [(.tmp 36),(.tmp 40)],none⟩] [(0,1),(0,3),(1,3),(2,3),(0,4),(1,4),(2,4),(3,4),(0,5),(1,5),(2,5),(0,6),(1,6),(2,6)])
       (.cond (.tmp 41)
        (.seq
        (.reg [] [⟨some 4,.mov (.cst (.d (.int .i64 9))),none⟩])
        .ret)
        .skip)))
      (.reg [] [⟨some 32,.mov (.tmp 6),none⟩,
       ⟨some 33,.arith .add .i64 (.tmp 32) (.cst (.d (.int .i64 1))),none⟩,
       ⟨some 6,.mov (.tmp 33),none⟩])))))))))
  (.seq
   (.reg [] [⟨some 4,.mov (.cst (.d (.int .i64 0))),none⟩])
   .ret))))⟩
def jr26:AFun:=⟨56,3,[.tmp 6],
 (.seq
 (.reg [0,1] [⟨some 3,.cbx 0 2 (.tmp 0),none⟩,
  ⟨some 4,.cbx 1 4 (.tmp 1),none⟩,
  ⟨some 6,.mov (.cst (.d (.bool false))),none⟩])
 (.seq
  (.reg [] [⟨some 12,.fad 0 (.tmp 3),none⟩,
   ⟨some 13,.ld false 1 (.tmp 12),none⟩,
   ⟨some 14,.fad 2 (.tmp 4),none⟩,
   ⟨some 15,.ld false 1 (.tmp 14),none⟩,
   ⟨some 16,.call 109 [(.tmp 13),(.tmp 15)],none⟩,
   ⟨some 11,.mov (.tmp 16),none⟩,
   ⟨some 17,.ext 0 (.tmp 11),none⟩,
   ⟨some 18,.ext 1 (.tmp 11),none⟩,
   ⟨some 7,.mov (.tmp 17),none⟩,
   ⟨some 8,.mov (.tmp 18),none⟩])
  (.seq
  (.seq
   (.reg [] [⟨some 19,.mov (.tmp 7),none⟩,
    ⟨some 20,.fad 0 (.tmp 4),none⟩,
    ⟨some 21,.ld false 1 (.tmp 20),none⟩,
    ⟨some 22,.seq false (.tmp 19) (.tmp 21),none⟩])
   (.cond (.tmp 22)
   (.seq
    (.reg [] [⟨some 23,.mov (.tmp 2),none⟩,
     ⟨some 24,.len (.tmp 23),none⟩,
     ⟨some 25,.cmp .eql (.tmp 24) (.cst (.d (.int .i64 0))),none⟩,
     ⟨some 6,.mov (.tmp 25),none⟩])
    .ret)
   .skip))
  (.seq
   (.seq
   (.reg [] [⟨some 9,.mov (.cst (.d (.int .i64 0))),none⟩])
   (.post [4,7] [0,1,2]
    (.block 0
    (.keep [2,3,4,7,9] [0,1]
     (.loop
     (.post [2,3,4,7,9] [2]
      (.seq
      (.seq
       (.reg [] [⟨some 26,.mov (.tmp 9),none⟩,
        ⟨some 27,.mov (.tmp 2),none⟩,
        ⟨some 28,.len (.tmp 27),none⟩,
        ⟨some 29,.cmp .lss (.tmp 26) (.tmp 28),none⟩])
       (.cond (.tmp 29)
       .skip
       (.exit 0)))
      (.seq
       (.block 1
       (.seq
        (.regd [2] [⟨some 32,.fad 1 (.tmp 3),none⟩,
         ⟨some 33,.ld false 1 (.tmp 32),none⟩,
         ⟨some 34,.mov (.tmp 2),none⟩,
         ⟨some 35,.mov (.tmp 9),none⟩,
         ⟨some 36,.ixa 1 (.tmp 34) (.tmp 35),none⟩,
         ⟨some 37,.ld false 1 (.tmp 36),none⟩,
         ⟨some 38,.ixa 6 (.tmp 33) (.tmp 37),none⟩,
         ⟨some 39,.ld true 6 (.tmp 38),none⟩,
         ⟨some 10,.alloc 2 [(.d (.str [])),(.d (.str [])),(.d (.str [])),(.d (.str [])),(.d (.int .i64 0)),(.d (.int .i64 0))],none⟩,
         ⟨none,.st 6 (.tmp 10) (.tmp 39),none⟩] [(0,2),(1,2),(0,3),(1,3),(2,3),(0,4),(1,4),(0,5),(1,5),(0,8),(1,8),(2,8),(3,8),(4,8),(5,8),(6,8),(7,8)])
        (.seq
        (.seq
         (.reg [] [⟨some 40,.ld true 6 (.tmp 10),none⟩,
          ⟨some 41,.ld true 4 (.tmp 4),none⟩,
          ⟨some 42,.call 115 [(.tmp 40),(.tmp 41)],none⟩,
          ⟨some 43,.not (.tmp 42),none⟩,
          ⟨some 44,.mov (.tmp 43),none⟩,
          ⟨some 45,.fad 0 (.tmp 10),some (44,false)⟩,
          ⟨some 46,.ld false 1 (.tmp 45),some (44,false)⟩,
          ⟨some 47,.mov (.tmp 7),some (44,false)⟩,
          ⟨some 48,.seq true (.tmp 46) (.tmp 47),some (44,false)⟩,
          ⟨some 49,.pick (.tmp 44) (.cst (.d (.bool true))) (.tmp 48),none⟩])
         (.cond (.tmp 49)
         (.seq
          (.reg [] [⟨some 6,.mov (.cst (.d (.bool false))),none⟩])
          .ret)
         .skip))
        (.reg [] [⟨some 50,.fad 1 (.tmp 10),none⟩,
         ⟨some 51,.ld false 1 (.tmp 50),none⟩,
         ⟨some 7,.mov (.tmp 51),none⟩]))))
       (.reg [] [⟨some 30,.mov (.tmp 9),none⟩,
        ⟨some 31,.arith .add .i64 (.tmp 30) (.cst (.d (.int .i64 1))),none⟩,
        ⟨some 9,.mov (.tmp 31),none⟩])))))))))
   (.seq
   (.reg [] [⟨some 52,.mov (.tmp 7),none⟩,
    ⟨some 53,.fad 0 (.tmp 4),none⟩,
    ⟨some 54,.ld false 1 (.tmp 53),none⟩,
    ⟨some 55,.seq false (.tmp 52) (.tmp 54),none⟩,
    ⟨some 6,.mov (.tmp 55),none⟩])
   .ret)))))⟩
def chkI (G:List Gr) (c:List Int):Int:=bif c.any (badI G) then 10 else bif dupI [] c then 9 else 0
theorem badI_a {G:List Gr} {x:Int} (h:x < 0):badI G x=true:=by unfold badI; rw [decide_eq_true h]; rfl
theorem badI_b {G:List Gr} {x:Int} (h:(G.length:Int)≤x):badI G x=true:=by unfold badI; rw [decide_eq_true h,Bool.or_true]
theorem badI_c {G:List Gr} {x:Int} (h:¬ x < 0) (h2:¬ (G.length:Int)≤x):badI G x=false:=by unfold badI; rw [decide_eq_false h,decide_eq_false h2]; rfl
theorem c25 (l:List Ob) (G:List Gr) (c:List Int) (hc:c.length≤1048576):CallDet Tryz.prog 25 [.d (.agg [.slice 2 (obs l),.slice 6 (grs G)]),.d (.slice 1 (ints c))] [.int .i64 (chkI G c)]:=by
 have hli:=ints_len c
 have hlg:=grs_len G
 refine call_of_vc (x:=jr25) (by kernel_rfl) rfl ?_
 unfold chkI
 rotate_left
 refine loop_st (fun k:Nat=>⟨[(1,.d (.slice 1 (ints c))),(2,.ptr 0 0),(5,.d (.int .i64 ((k:Nat))))],[.cbox [.slice 2 (obs l),.slice 6 (grs G)]]⟩) (fun k=>k≤c.length∧c.any (badI G)=(c.drop k).any (badI G)) (fun k=>c.length - k) 0 rfl ⟨Nat.zero_le _,rfl⟩ ?_
 rintro k ⟨hk,hi⟩
 have hk:k≤c.length:=hk
 dsimp only
 by_cases hkn:k < c.length
 ·refine Exists.elim (get_lt c hkn) fun x hx=>?_
  have hx1:=ints_get hx
  rw [drop_at hx,List.any_cons] at hi
  by_cases h1:x < 0
  ·rw [badI_a h1] at hi
   have hi:c.any (badI G)=true:=hi
   rw [hi]
   refine sd ?_
   refine b_lt (fun t1=>?_) (fun t1=>?_)
   refine ix_at hx1 ?_ ?_
   (show (0:Int)≤(↑k:Int); omega)
   refine sd ?_
   refine b_lt (fun t2=>?_) (fun t2=>?_)
   refine sd ?_
   exact rfl
   (exfalso; omega)
   (exfalso; omega)
  ·by_cases h2:(G.length:Int)≤x
   ·rw [badI_b h2] at hi
    have hi:c.any (badI G)=true:=hi
    rw [hi]
    refine sd ?_
    refine b_lt (fun t1=>?_) (fun t1=>?_)
    refine ix_at hx1 ?_ ?_
    (show (0:Int)≤(↑k:Int); omega)
    refine sd ?_
    refine b_lt (fun t2=>?_) (fun t2=>?_)
    (exfalso; omega)
    refine ix_at hx1 ?_ ?_
    (show (0:Int)≤(↑k:Int); omega)
    refine sd ?_
    refine b_le (fun t3=>?_) (fun t3=>?_)
    exact rfl
    (exfalso; omega)
    (exfalso; omega)
   ·rw [badI_c h1 h2] at hi
    have hi:c.any (badI G)=(c.drop (k+1)).any (badI G):=hi
    have fin:∃ a':Nat,((a'≤c.length∧c.any (badI G)=(c.drop a').any (badI G))∧c.length - a' < c.length - k)∧(⟨[(1,.d (.slice 1 (ints c))),(2,.ptr 0 0),(5,.d (.int .i64 ((k:Int)+1)))],[.cbox [.slice 2 (obs l),.slice 6 (grs G)]]⟩:St)=⟨[(1,.d (.slice 1 (ints c))),(2,.ptr 0 0),(5,.d (.int .i64 (a':Nat)))],[.cbox [.slice 2 (obs l),.slice 6 (grs G)]]⟩:=⟨k+1,⟨⟨by omega,hi⟩,by omega⟩,rfl⟩
    refine sd ?_
    refine b_lt (fun t1=>?_) (fun t1=>?_)
    refine ix_at hx1 ?_ ?_
    (show (0:Int)≤(↑k:Int); omega)
    refine sd ?_
    refine b_lt (fun t2=>?_) (fun t2=>?_)
    (exfalso; omega)
    refine ix_at hx1 ?_ ?_
    (show (0:Int)≤(↑k:Int); omega)
    refine sd ?_
    refine b_le (fun t3=>?_) (fun t3=>?_)
    (exfalso; omega)
    refine ar_add ?_ ?_
    refine an ?_ ?_
    (show (-9223372036854775808:Int)≤(↑k:Int)+(1:Int); omega)
    (show (↑k:Int)+(1:Int)≤(9223372036854775807:Int); omega)
    rotate_left
    (exfalso; omega)
    all_goals exact fin
 ·have e:k=c.length:=by omega
  subst e
  rw [List.drop_eq_nil_of_le (Nat.le_refl _)] at hi
  have hi:c.any (badI G)=false:=hi
  rw [hi]
  clear hi
  refine sd ?_
  refine b_lt (fun t1=>?_) (fun t1=>?_)
  (exfalso; omega)
  rotate_left
  refine loop_st (fun k:Nat=>⟨[(1,.d (.slice 1 (ints c))),(6,.d (.int .i64 ((k:Nat))))],[.none]⟩) (fun k=>k≤c.length∧dupI [] c=dupI (c.take k) (c.drop k)) (fun k=>c.length - k) 0 rfl ⟨Nat.zero_le _,rfl⟩ ?_
  rintro k ⟨hk,hi⟩
  have hk:k≤c.length:=hk
  dsimp only
  by_cases hkn:k < c.length
  ·refine Exists.elim (get_lt c hkn) fun x hx=>?_
   have hx1:=ints_get hx
   have ht:(ints c).take k=ints (c.take k):=(List.map_take).symm
   have ht1:c.take (k+1)=c.take k++[x]:=by rw [List.take_add_one,hx]; rfl
   have c94_:CallDet Tryz.prog 94 [.d (.slice 1 ((ints c).take k)),.d (.int .i64 x)] [.bool ((c.take k).contains x)]:=by rw [ht]; exact c94 (c.take k) x (by rw [List.length_take]; omega)
   rw [drop_at hx,dupI] at hi
   cases hs:(c.take k).contains x with
   | true =>
    rw [hs] at hi c94_
    have hi:dupI [] c=true:=hi
    rw [hi]
    refine sd ?_
    refine b_lt (fun t2=>?_) (fun t2=>?_)
    refine an ?_ ?_
    refine an ?_ ?_
    exact rfl
    refine an ?_ ?_
    (show (0:Int)≤(0:Int); omega)
    refine an ?_ ?_
    (show (0:Int)≤(↑k:Int); omega)
    (show (↑k:Int)≤(↑(List.length (ints c)):Int); omega)
    refine ix_at hx1 ?_ ?_
    (show (0:Int)≤(↑k:Int); omega)
    refine ca c94_ ?_
    exact rfl
    (exfalso; omega)
   | false =>
    rw [hs] at hi c94_
    have hi:dupI [] c=dupI (c.take k++[x]) (c.drop (k+1)):=hi
    rw [← ht1] at hi
    have fin:∃ a':Nat,((a'≤c.length∧dupI [] c=dupI (c.take a') (c.drop a'))∧c.length - a' < c.length - k)∧(⟨[(1,.d (.slice 1 (ints c))),(6,.d (.int .i64 ((k:Int)+1)))],[.none]⟩:St)=⟨[(1,.d (.slice 1 (ints c))),(6,.d (.int .i64 (a':Nat)))],[.none]⟩:=⟨k+1,⟨⟨by omega,hi⟩,by omega⟩,rfl⟩
    refine sd ?_
    refine b_lt (fun t2=>?_) (fun t2=>?_)
    refine an ?_ ?_
    refine an ?_ ?_
    exact rfl
    refine an ?_ ?_
    (show (0:Int)≤(0:Int); omega)
    refine an ?_ ?_
    (show (0:Int)≤(↑k:Int); omega)
    (show (↑k:Int)≤(↑(List.length (ints c)):Int); omega)
    refine ix_at hx1 ?_ ?_
    (show (0:Int)≤(↑k:Int); omega)
    refine ca c94_ ?_
    refine ar_add ?_ ?_
    refine an ?_ ?_
    (show (-9223372036854775808:Int)≤(↑k:Int)+(1:Int); omega)
    (show (↑k:Int)+(1:Int)≤(9223372036854775807:Int); omega)
    rotate_left
    (exfalso; omega)
    all_goals exact fin
  ·have e:k=c.length:=by omega
   subst e
   rw [List.drop_eq_nil_of_le (Nat.le_refl _)] at hi
   have hi:dupI [] c=false:=hi
   rw [hi]
   refine sd ?_
   refine b_lt (fun t2=>?_) (fun t2=>?_)
   (exfalso; omega)
   exact rfl
def isC (l:List Ob) (G:List Gr) (of ri ob:Nm) (day:Int) (c:List Int):Bool :=
 bif (ownO l ob).getD []==of then ((c.length:Int)==0) else
 match runC ri ob day G ((ownO l ob).getD []) c with
 | none=>false
 | some t=>t==of
theorem c26 (l:List Ob) (G:List Gr) (of ri ob:Nm) (day:Int) (c:List Int) (hl:l.length≤1048576) (hc:c.length≤1048576) (hb:c.any (badI G)=false):CallDet Tryz.prog 26 [.d (.agg [.slice 2 (obs l),.slice 6 (grs G)]),.d (.agg [.str of,.str ri,.str ob,.int .i64 day]),.d (.slice 1 (ints c))] [.bool (isC l G of ri ob day c)]:=by
 have hli:=ints_len c
 have c109_:=c109 l ob hl
 refine call_of_vc (x:=jr26) (by kernel_rfl) rfl ?_
 unfold isC
 cases ho:((ownO l ob).getD []==of) with
 | true =>
  rw [← hli]
  refine ca c109_ ?_
  refine b_t ho ?_
  refine sd ?_
  exact rfl
 | false =>
  refine ca c109_ ?_
  refine b_f ho ?_
  rotate_left
  refine loop_st (fun p:Nat × Nm=>⟨[(2,.d (.slice 1 (ints c))),(3,.ptr 0 0),(4,.ptr 1 0),(7,.d (.str (p.2))),(9,.d (.int .i64 ((p.1:Nat))))],[.cbox [.slice 2 (obs l),.slice 6 (grs G)],.cbox [.str of,.str ri,.str ob,.int .i64 day],.none]⟩) (fun p=>p.1≤c.length∧runC ri ob day G ((ownO l ob).getD []) c=runC ri ob day G p.2 (c.drop p.1)) (fun p=>c.length - p.1) (0,(ownO l ob).getD []) rfl ⟨Nat.zero_le _,rfl⟩ ?_
  rintro ⟨k,t⟩ ⟨hk2,hi2⟩
  have hk3:k≤c.length:=hk2
  have hi3:runC ri ob day G ((ownO l ob).getD []) c=runC ri ob day G t (c.drop k):=hi2
  clear hk2 hi2
  dsimp only
  by_cases hkn2:k < c.length
  ·refine Exists.elim (get_lt c hkn2) fun x hx=>?_
   have hx1:=ints_get hx
   have hbx:badI G x=false:=by
    have:=List.any_eq_false.1 hb x (List.mem_of_getElem? hx)
    simpa using this
   obtain ⟨hb1,hb2⟩:=badI_f hbx
   obtain ⟨n,rfl⟩:∃ n:Nat,x=(n:Int):=⟨x.toNat,by omega⟩
   refine Exists.elim (get_lt G (k:=n) (by omega)) fun g hg=>?_
   have hg1:=grs_at hg
   have c115_:=c115 g of ri ob day
   rw [drop_at hx,runC_at hg] at hi3
   cases hh:holdB ri ob day g with
   | false =>
    rw [hh] at c115_
    have hi4:runC ri ob day G ((ownO l ob).getD []) c=none:=by rw [hi3,hh,Bool.and_false]; rfl
    rw [hi4]
    refine sd ?_
    refine b_lt (fun t1=>?_) (fun t1=>?_)
    refine ix_at hx1 ?_ ?_
    (show (0:Int)≤(↑k:Int); omega)
    refine ix_at hg1 ?_ ?_
    assumption
    refine ca c115_ ?_
    refine sd ?_
    exact rfl
    (exfalso; omega)
   | true =>
    rw [hh] at c115_
    cases h1:(g.fr != t) with
    | true =>
     have he:(g.fr==t)=false:=by simpa [bne] using h1
     have hi4:runC ri ob day G ((ownO l ob).getD []) c=none:=by rw [hi3,he]; rfl
     rw [hi4]
     refine sd ?_
     refine b_lt (fun t1=>?_) (fun t1=>?_)
     refine ix_at hx1 ?_ ?_
     (show (0:Int)≤(↑k:Int); omega)
     refine ix_at hg1 ?_ ?_
     assumption
     refine ca c115_ ?_
     refine b_t h1 ?_
     exact rfl
     (exfalso; omega)
    | false =>
     have he:(g.fr==t)=true:=by simpa [bne] using h1
     have hi4:runC ri ob day G ((ownO l ob).getD []) c=runC ri ob day G g.to (c.drop (k+1)):=by rw [hi3,he,hh]; rfl
     have fin:∃ a':Nat × Nm,((a'.1≤c.length∧runC ri ob day G ((ownO l ob).getD []) c=runC ri ob day G a'.2 (c.drop a'.1))∧c.length - a'.1 < c.length - k)∧(⟨[(2,.d (.slice 1 (ints c))),(3,.ptr 0 0),(4,.ptr 1 0),(7,.d (.str (g.to))),(9,.d (.int .i64 ((k:Int)+1)))],[.cbox [.slice 2 (obs l),.slice 6 (grs G)],.cbox [.str of,.str ri,.str ob,.int .i64 day],.none]⟩:St)=⟨[(2,.d (.slice 1 (ints c))),(3,.ptr 0 0),(4,.ptr 1 0),(7,.d (.str (a'.2))),(9,.d (.int .i64 (a'.1:Nat)))],[.cbox [.slice 2 (obs l),.slice 6 (grs G)],.cbox [.str of,.str ri,.str ob,.int .i64 day],.none]⟩:=⟨(k+1,g.to),⟨⟨by show k+1≤c.length; omega,hi4⟩,by show c.length - (k+1) < c.length - k; omega⟩,rfl⟩
     refine sd ?_
     refine b_lt (fun t1=>?_) (fun t1=>?_)
     refine ix_at hx1 ?_ ?_
     (show (0:Int)≤(↑k:Int); omega)
     refine ix_at hg1 ?_ ?_
     assumption
     refine ca c115_ ?_
     refine b_f h1 ?_
     refine ar_add ?_ ?_
     refine an ?_ ?_
     (show (-9223372036854775808:Int)≤(↑k:Int)+(1:Int); omega)
     (show (↑k:Int)+(1:Int)≤(9223372036854775807:Int); omega)
     rotate_left
     (exfalso; omega)
     all_goals exact fin
  ·have e:k=c.length:=by omega
   subst e
   rw [List.drop_eq_nil_of_le (Nat.le_refl _)] at hi3
   have hi4:runC ri ob day G ((ownO l ob).getD []) c=some t:=hi3
   rw [hi4]
   refine sd ?_
   refine b_lt (fun t1=>?_) (fun t1=>?_)
   (exfalso; omega)
   exact rfl
end Vc
