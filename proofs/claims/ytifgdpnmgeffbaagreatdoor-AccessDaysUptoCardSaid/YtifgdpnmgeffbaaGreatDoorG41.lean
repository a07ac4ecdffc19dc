import Derived.Test.YtifgdpnmgeffbaaGreatDoorG39
import Derived.Test.YtifgdpnmgeffbaaGreatDoorG35
import Derived.Test.YtifgdpnmgeffbaaGreatDoorG40
set_option linter.unusedSectionVars false
set_option linter.unusedVariables false
set_option linter.unusedSimpArgs false
set_option maxRecDepth 10000
set_option maxHeartbeats 4000000
namespace Vc
open Go Go.Proofs
def jr4:AFun:=⟨97,3,[.tmp 4],
 (.seq
 (.reg [0,1] [⟨some 2,.cbx 0 2 (.tmp 0),none⟩,
  ⟨some 3,.cbx 1 4 (.tmp 1),none⟩,
  ⟨some 4,.mov (.cst (.d (.bool false))),none⟩])
 (.seq
  (.seq
  (.reg [] [⟨some 13,.ld true 2 (.tmp 2),none⟩,
   ⟨some 14,.call 11 [(.tmp 13)],none⟩,
   ⟨some 15,.not (.tmp 14),none⟩,
   ⟨some 16,.mov (.tmp 15),none⟩,
   ⟨some 17,.ld true 4 (.tmp 3),some (16,false)⟩,
   ⟨some 18,.call 12 [(.tmp 17)],some (16,false)⟩,
   ⟨some 19,.not (.tmp 18),some (16,false)⟩,
   ⟨some 20,.pick (.tmp 16) (.cst (.d (.bool true))) (.tmp 19),none⟩])
  (.cond (.tmp 20)
   (.seq
   (.reg [] [⟨some 21,.call 13 [],none⟩,
    ⟨some 4,.mov (.tmp 21),none⟩])
   .ret)
   .skip))
  (.seq
  (.regd [] [⟨some 23,.ld true 2 (.tmp 2),none⟩,
   ⟨some 24,.call 15 [(.tmp 23)],none⟩,
   ⟨some 25,.fad 1 (.tmp 3),none⟩,
   ⟨some 26,.ld false 1 (.tmp 25),none⟩,
   ⟨some 27,.fad 2 (.tmp 3),none⟩,
   ⟨some 28,.ld false 1 (.tmp 27),none⟩,
   ⟨some 29,.fad 3 (.tmp 3),none⟩,
   ⟨some 30,.ld false 1 (.tmp 29),none⟩,
   ⟨some 31,.call 29 [(.tmp 24),(.tmp 26),(.tmp 28),(.tmp 30)],none⟩,
   ⟨some 22,.mov (.tmp 31),none⟩,
   ⟨some 32,.ext 0 (.tmp 22),none⟩,
   ⟨some 33,.ext 1 (.tmp 22),none⟩,
   ⟨some 5,.mov (.tmp 32),none⟩,
   ⟨some 6,.mov (.tmp 33),none⟩] [(0,2),(1,2),(0,3),(1,3),(0,4),(1,4),(2,4),(3,4),(0,5),(1,5),(2,5),(3,5),(0,6),(1,6),(2,6),(3,6),(4,6),(5,6),(0,7),(1,7),(2,7),(3,7),(4,7),(5,7),(10,11),(11,12)])
  (.seq
   (.regd [] [⟨some 35,.ld true 2 (.tmp 2),none⟩,
    ⟨some 36,.call 15 [(.tmp 35)],none⟩,
    ⟨some 37,.fad 0 (.tmp 3),none⟩,
    ⟨some 38,.ld false 1 (.tmp 37),none⟩,
    ⟨some 39,.fad 1 (.tmp 3),none⟩,
    ⟨some 40,.ld false 1 (.tmp 39),none⟩,
    ⟨some 41,.fad 2 (.tmp 3),none⟩,
    ⟨some 42,.ld false 1 (.tmp 41),none⟩,
    ⟨some 43,.call 30 [(.tmp 36),(.tmp 38),(.tmp 40),(.tmp 42)],none⟩,
    ⟨some 34,.mov (.tmp 43),none⟩,
    ⟨some 44,.ext 0 (.tmp 34),none⟩,
    ⟨some 45,.ext 1 (.tmp 34),none⟩,
    ⟨some 7,.mov (.tmp 44),none⟩,
    ⟨some 8,.mov (.tmp 45),none⟩] [(0,2),(1,2),(0,3),(1,3),(0,4),(1,4),(2,4),(3,4),(0,5),(1,5),(2,5),(3,5),(0,6),(1,6),(2,6),(3,6),(4,6),(5,6),(0,7),(1,7),(2,7),(3,7),(4,7),(5,7),(10,11),(11,12)])
   (.seq
   (.regd [] [⟨some 46,.ld true 2 (.tmp 2),none⟩,
    ⟨some 47,.call 18 [(.tmp 46)],none⟩,
    ⟨some 48,.ld true 2 (.tmp 2),none⟩,
    ⟨some 49,.call 18 [(.tmp 48)],none⟩,
    ⟨some 9,.mov (.tmp 47),none⟩,
    ⟨some 10,.mov (.tmp 49),none⟩] [(0,2),(1,2)])
   (.seq
    (.seq
    (.reg [] [⟨some 50,.mov (.tmp 9),none⟩,
     ⟨some 51,.cmp .eql (.tmp 50) (.cst (.d (.int .i64 0))),none⟩])
    (.cond (.tmp 51)
     (.regd [2] [⟨some 52,.ld true 2 (.tmp 2),none⟩,
      ⟨some 53,.fad 1 (.tmp 3),none⟩,
      ⟨some 54,.ld false 1 (.tmp 53),none⟩,
      ⟨some 55,.fad 2 (.tmp 3),none⟩,
      ⟨some 56,.ld false 1 (.tmp 55),none⟩,
      ⟨some 57,.call 31 [(.tmp 52),(.tmp 54),(.tmp 56)],none⟩,
      ⟨some 58,.fad 3 (.tmp 3),none⟩,
      ⟨some 59,.ld false 1 (.tmp 58),none⟩,
      ⟨some 60,.call 21 [(.tmp 59)],none⟩,
      ⟨some 61,.bsl 2 3 1 2 [(.int .i64 0),(.int .i64 0)] [(0,(.tmp 57)),(1,(.tmp 60))],none⟩,
      ⟨some 62,.call 19 [(.tmp 61)],none⟩,
      ⟨some 63,.ld true 2 (.tmp 2),none⟩,
      ⟨some 64,.ld true 4 (.tmp 3),none⟩,
      ⟨some 65,.call 20 [(.tmp 63),(.tmp 64)],none⟩,
      ⟨some 9,.mov (.tmp 62),none⟩,
      ⟨some 10,.mov (.tmp 65),none⟩] [(0,1),(0,2),(0,3),(1,3),(2,3),(0,4),(1,4),(2,4),(0,6),(1,6),(2,6),(3,6),(4,6),(5,6),(0,7),(1,7),(2,7),(3,7),(4,7),(5,7),(0,11),(1,11),(2,11),(3,11),(4,11),(5,11),(6,11),(7,11),(8,11),(9,11),(10,11),(0,12),(1,12),(2,12),(3,12),(4,12),(5,12),(6,12),(7,12),(8,12),(9,12),(10,12),(11,12)])
     .skip))
    (.seq
    (.reg [] [⟨some 11,.mov (.cst (.nils 1)),none⟩])
    (.seq
     (.reg [] [⟨some 12,.mov (.cst (.nils 2)),none⟩])
     (.seq
     (.seq
      (.reg [] [⟨some 66,.mov (.tmp 9),none⟩,
       ⟨some 67,.cmp .eql (.tmp 66) (.cst (.d (.int .i64 0))),none⟩])
      (.cond (.tmp 67)
      (.reg [] [⟨some 68,.ld true 2 (.tmp 2),none⟩,
       ⟨some 69,.ld true 4 (.tmp 3),none⟩,
       ⟨some 70,.call 32 [(.tmp 68),(.tmp 69)],none⟩,
       ⟨some 11,.mov (.tmp 70),none⟩])
      .skip))
     (.seq
      (.seq
      (.reg [] [⟨some 71,.mov (.tmp 10),none⟩,
       ⟨some 72,.cmp .eql (.tmp 71) (.cst (.d (.int .i64 0))),none⟩])
      (.cond (.tmp 72)
       (.reg [] [⟨some 73,.ld true 2 (.tmp 2),none⟩,
        ⟨some 74,.ld true 4 (.tmp 3),none⟩,
        ⟨some 75,.call 33 [(.tmp 73),(.tmp 74)],none⟩,
        ⟨some 12,.mov (.tmp 75),none⟩])
       .skip))
      (.seq
      (.reg [] [⟨some 76,.mov (.tmp 5),none⟩,
       ⟨some 77,.mov (.tmp 11),none⟩,
       ⟨some 78,.call 34 [(.tmp 76),(.tmp 77)],none⟩,
       ⟨some 79,.mov (.tmp 78),none⟩,
       ⟨some 80,.mov (.tmp 6),some (79,true)⟩,
       ⟨some 81,.mov (.tmp 9),some (79,true)⟩,
       ⟨some 82,.cmp .eql (.tmp 80) (.tmp 81),some (79,true)⟩,
       ⟨some 83,.pick (.tmp 79) (.tmp 82) (.cst (.d (.bool false))),none⟩,
       ⟨some 84,.mov (.tmp 83),none⟩,
       ⟨some 85,.mov (.tmp 7),some (84,true)⟩,
       ⟨some 86,.mov (.tmp 12),some (84,true)⟩,
       ⟨some 87,.call 35 [(.tmp 85),(.tmp 86)],some (84,true)⟩,
       ⟨some 88,.pick (.tmp 84) (.tmp 87) (.cst (.d (.bool false))),none⟩,
       ⟨some 89,.mov (.tmp 88),none⟩,
       ⟨some 90,.mov (.tmp 8),some (89,true)⟩,
       ⟨some 91,.mov (.tmp 10),some (89,true)⟩,
       ⟨some 92,.cmp .eql (.tmp 90) (.tmp 91),some (89,true)⟩,
       ⟨some 93,.pick (.tmp 89) (.tmp 92) (.cst (.d (.bool false))),none⟩,
       ⟨some 94,.mov (.tmp 93),none⟩,
       ⟨some 95,.call 13 [],some (94,true)⟩,
       ⟨some 96,.pick (.tmp 94) (.tmp 95) (.cst (.d (.bool false))),none⟩,
       ⟨some 4,.mov (.tmp 96),none⟩])
      .ret)))))))))))⟩
def jr34:AFun:=⟨26,0,[.tmp 4],
 (.seq
 (.reg [] [⟨some 4,.mov (.cst (.d (.bool false))),none⟩])
 (.seq
  (.seq
  (.reg [] [⟨some 6,.mov (.tmp 0),none⟩,
   ⟨some 7,.len (.tmp 6),none⟩,
   ⟨some 8,.mov (.tmp 1),none⟩,
   ⟨some 9,.len (.tmp 8),none⟩,
   ⟨some 10,.cmp .neq (.tmp 7) (.tmp 9),none⟩])
  (.cond (.tmp 10)
   (.seq
   (.reg [] [⟨some 4,.mov (.cst (.d (.bool false))),none⟩])
   .ret)
   .skip))
  (.seq
  (.seq
   (.reg [] [⟨some 5,.mov (.cst (.d (.int .i64 0))),none⟩])
   (.post [] []
   (.block 0
    (.keep [0,1,5] []
    (.loop
     (.post [0,1,5] []
     (.seq
      (.seq
      (.reg [] [⟨some 11,.mov (.tmp 5),none⟩,
       ⟨some 12,.mov (.tmp 0),none⟩,
       ⟨some 13,.len (.tmp 12),none⟩,
       ⟨some 14,.cmp .lss (.tmp 11) (.tmp 13),none⟩])
      (.cond (.tmp 14)
       .skip
       (.exit 0)))
      (.seq
      (.block 1
       (.seq
       (.regd [] [⟨some 17,.mov (.tmp 0),none⟩,
        ⟨some 18,.mov (.tmp 5),none⟩,
        ⟨some 19,.ixa 1 (.tmp 17) (.tmp 18),none⟩,
        ⟨some 20,.ld false 1 (.tmp 19),none⟩,
        ⟨some 21,.mov (.tmp 1),none⟩,
        ⟨some 22,.mov (.tmp 5),none⟩,
        ⟨some 23,.ixa 1 (.tmp 21) (.tmp 22),none⟩,
        ⟨some 24,.ld false 1 (.tmp 23),none⟩,
        ⟨some 25,.seq true (.tmp 20) (.tmp 24),none⟩] [(0,1),(0,4),(1,4),(2,4),(3,4),(0,5),(1,5),(2,5),(3,5),(4,5),(0,6),(1,6),(2,6),(3,6),(0,7),(1,7),(2,7),(3,7)])
       (.cond (.tmp 25)
        (.seq
        (.reg [] [⟨some 4,.mov (.cst (.d (.bool false))),none⟩])
        .ret)
        .skip)))
      (.reg [] [⟨some 15,.mov (.tmp 5),none⟩,
       ⟨some 16,.arith .add .i64 (.tmp 15) (.cst (.d (.int .i64 1))),none⟩,
       ⟨some 5,.mov (.tmp 16),none⟩])))))))))
  (.seq
   (.reg [] [⟨some 4,.mov (.cst (.d (.bool true))),none⟩])
   .ret))))⟩
def jr35:AFun:=⟨26,0,[.tmp 4],
 (.seq
 (.reg [] [⟨some 4,.mov (.cst (.d (.bool false))),none⟩])
 (.seq
  (.seq
  (.reg [] [⟨some 6,.mov (.tmp 0),none⟩,
   ⟨some 7,.len (.tmp 6),none⟩,
   ⟨some 8,.mov (.tmp 1),none⟩,
   ⟨some 9,.len (.tmp 8),none⟩,
   ⟨some 10,.cmp .neq (.tmp 7) (.tmp 9),none⟩])
  (.cond (.tmp 10)
   (.seq
   (.reg [] [⟨some 4,.mov (.cst (.d (.bool false))),none⟩])
   .ret)
   .skip))
  (.seq
  (.seq
   (.reg [] [⟨some 5,.mov (.cst (.d (.int .i64 0))),none⟩])
   (.post [] []
   (.block 0
    (.keep [0,1,5] []
    (.loop
     (.post [0,1,5] []
     (.seq
      (.seq
      (.reg [] [⟨some 11,.mov (.tmp 5),none⟩,
       ⟨some 12,.mov (.tmp 0),none⟩,
       ⟨some 13,.len (.tmp 12),none⟩,
       ⟨some 14,.cmp .lss (.tmp 11) (.tmp 13),none⟩])
      (.cond (.tmp 14)
       .skip
       (.exit 0)))
      (.seq
      (.block 1
       (.seq
       (.regd [] [⟨some 17,.mov (.tmp 0),none⟩,
        ⟨some 18,.mov (.tmp 5),none⟩,
        ⟨some 19,.ixa 2 (.tmp 17) (.tmp 18),none⟩,
        ⟨some 20,.ld true 2 (.tmp 19),none⟩,
        ⟨some 21,.mov (.tmp 1),none⟩,
        ⟨some 22,.mov (.tmp 5),none⟩,
        ⟨some 23,.ixa 2 (.tmp 21) (.tmp 22),none⟩,
        ⟨some 24,.ld true 2 (.tmp 23),none⟩,
        ⟨some 25,.aeq true [0,0] (.tmp 20) (.tmp 24),none⟩] [(0,1),(0,4),(1,4),(2,4),(3,4),(0,5),(1,5),(2,5),(3,5),(4,5),(0,6),(1,6),(2,6),(3,6),(0,7),(1,7),(2,7),(3,7)])
       (.cond (.tmp 25)
        (.seq
        (.reg [] [⟨some 4,.mov (.cst (.d (.bool false))),none⟩])
        .ret)
        .skip)))
      (.reg [] [⟨some 15,.mov (.tmp 5),none⟩,
       ⟨some 16,.arith .add .i64 (.tmp 15) (.cst (.d (.int .i64 1))),none⟩,
       ⟨some 5,.mov (.tmp 16),none⟩])))))))))
  (.seq
   (.reg [] [⟨some 4,.mov (.cst (.d (.bool true))),none⟩])
   .ret))))⟩
theorem sps_ix {l:List (Int × Int)} {k:Nat} {x:Int × Int} (h:l[k]?=some x):(sps l)[((k:Nat):Int).toNat]?=some (.agg [.int .i64 x.1,.int .i64 x.2]):=sps_at h
theorem c35 (l:List (Int × Int)) (hl:l.length≤1048576):CallDet Tryz.prog 35 [.d (.slice 2 (sps l)),.d (.slice 2 (sps l))] [.bool true]:=by
 have hlen:=sps_len l
 refine call_of_vc (x:=jr35) (by kernel_rfl) rfl ?_
 refine sd ?_
 refine b_ne (fun t1=>?_) (fun t1=>?_)
 (exfalso; omega)
 rotate_left
 refine loop_st (fun k:Nat=>⟨[(0,.d (.slice 2 (sps l))),(1,.d (.slice 2 (sps l))),(5,.d (.int .i64 ((k:Nat))))],[]⟩) (fun k=>k≤l.length) (fun k=>l.length - k) 0 rfl (Nat.zero_le _) ?_
 intro k hk
 have hk:k≤l.length:=hk
 dsimp only
 by_cases hkn:k < l.length
 ·refine Exists.elim (get_lt l hkn) fun x hx=>?_
  have hx1:=sps_ix hx
  have fin:∃ a':Nat,(a'≤l.length∧l.length - a' < l.length - k)∧(⟨[(0,.d (.slice 2 (sps l))),(1,.d (.slice 2 (sps l))),(5,.d (.int .i64 ((k:Int)+1)))],[]⟩:St)=⟨[(0,.d (.slice 2 (sps l))),(1,.d (.slice 2 (sps l))),(5,.d (.int .i64 ((a':Nat))))],[]⟩ :=
   ⟨k+1,⟨by omega,by omega⟩,rfl⟩
  have hxx:(!(x.1==x.1&&(x.2==x.2&&true)))=false:=by rw [beq_self_eq_true,beq_self_eq_true]; rfl
  refine sd ?_
  refine b_lt (fun t2=>?_) (fun t2=>?_)
  refine ix_at hx1 ?_ ?_
  (show (0:Int)≤(↑k:Int); omega)
  refine ix_at hx1 ?_ ?_
  (show (0:Int)≤(↑k:Int); omega)
  refine ca (Exists.intro _ (And.intro rfl rfl)) ?_
  refine b_f hxx ?_
  refine ar_add ?_ ?_
  refine an ?_ ?_
  (show (-9223372036854775808:Int)≤(↑k:Int)+(1:Int); omega)
  (show (↑k:Int)+(1:Int)≤(9223372036854775807:Int); omega)
  rotate_left
  (exfalso; omega)
  all_goals exact fin
 ·refine sd ?_
  refine b_lt (fun t2=>?_) (fun t2=>?_)
  (exfalso; omega)
  exact rfl
  all_goals rfl
theorem c34 (l:List Nm) (hl:l.length≤1048576):CallDet Tryz.prog 34 [.d (.slice 1 (strs l)),.d (.slice 1 (strs l))] [.bool true]:=by
 have hlen:=strs_len l
 refine call_of_vc (x:=jr34) (by kernel_rfl) rfl ?_
 refine sd ?_
 refine b_ne (fun t1=>?_) (fun t1=>?_)
 (exfalso; omega)
 rotate_left
 refine loop_st (fun k:Nat=>⟨[(0,.d (.slice 1 (strs l))),(1,.d (.slice 1 (strs l))),(5,.d (.int .i64 ((k:Nat))))],[]⟩) (fun k=>k≤l.length) (fun k=>l.length - k) 0 rfl (Nat.zero_le _) ?_
 intro k hk
 have hk:k≤l.length:=hk
 dsimp only
 by_cases hkn:k < l.length
 ·refine Exists.elim (get_lt l hkn) fun x hx=>?_
  have hx1:=strs_get hx
  have fin:∃ a':Nat,(a'≤l.length∧l.length - a' < l.length - k)∧(⟨[(0,.d (.slice 1 (strs l))),(1,.d (.slice 1 (strs l))),(5,.d (.int .i64 ((k:Int)+1)))],[]⟩:St)=⟨[(0,.d (.slice 1 (strs l))),(1,.d (.slice 1 (strs l))),(5,.d (.int .i64 ((a':Nat))))],[]⟩ :=
   ⟨k+1,⟨by omega,by omega⟩,rfl⟩
  have hxx:(x != x)=false:=by rw [bne,beq_self_eq_true]; rfl
  refine sd ?_
  refine b_lt (fun t2=>?_) (fun t2=>?_)
  refine ix_at hx1 ?_ ?_
  (show (0:Int)≤(↑k:Int); omega)
  refine ix_at hx1 ?_ ?_
  (show (0:Int)≤(↑k:Int); omega)
  refine b_f hxx ?_
  refine ar_add ?_ ?_
  refine an ?_ ?_
  (show (-9223372036854775808:Int)≤(↑k:Int)+(1:Int); omega)
  (show (↑k:Int)+(1:Int)≤(9223372036854775807:Int); omega)
  rotate_left
  (exfalso; omega)
  all_goals exact fin
 ·refine sd ?_
  refine b_lt (fun t2=>?_) (fun t2=>?_)
  (exfalso; omega)
  exact rfl
  all_goals rfl
theorem qE_1 {l:List Ob} {G:List Gr} {of ri ob:Nm} (h:bookE l G≠0):qE l G of ri ob=bookE l G:=by unfold qE; rw [fo_nz h]
theorem qE_2 {l:List Ob} {G:List Gr} {of ri ob:Nm} (h:bookE l G=0):firstOf [nmE of,askE l ri ob]=qE l G of ri ob:=by unfold qE; rw [h,fo_z]
theorem ofE_1 {l:List Ob} {G:List Gr} {ri ob:Nm} {day:Int} (h:bookE l G≠0):ofE l G ri ob day=bookE l G:=by unfold ofE; rw [fo_nz h]
theorem ofE_2 {l:List Ob} {G:List Gr} {ri ob:Nm} {day:Int} (h:bookE l G=0):firstOf [askE l ri ob,within3 day 0 100000]=ofE l G ri ob day:=by unfold ofE; rw [h,fo_z]
theorem hoG_at {ri ob:Nm} {day:Int} {n:Nm} {d:Int}:∀ {r:List Gr} {L:List Nm} {K:List Int},0 < L.length→(hoG ri ob day n d r L K).1[0]?=L[0]?
 | [],_,_,_=>rfl
 | g::r,L,K,h=>by
  rw [hoG]
  cases (holdB ri ob day g&&(g.fr==n&&!L.contains g.to)) with
  | false=>exact hoG_at h
  | true =>
   refine (hoG_at (r:=r) (L:=L++[g.to]) (K:=K++[d+1]) (by rw [List.length_append]; exact Nat.lt_of_lt_of_le h (Nat.le_add_right _ _))).trans ?_
   rw [List.getElem?_append_left h]
theorem hoL_at {ri ob:Nm} {day:Int} {G:List Gr}:∀ {f i:Nat} {L:List Nm} {K:List Int},0 < L.length→(hoL ri ob day G f i L K).1[0]?=L[0]?
 | 0,_,_,_,_=>rfl
 | f+1,i,L,K,h=>by
  rw [hoL]
  split
  ·exact (hoL_at (Nat.lt_of_lt_of_le h hoG_0)).trans (hoG_at h)
  ·rfl
theorem ends_gr:∀ {l:List Ob} {G:List Gr},grE l G=0→∀ g∈G,(0≤g.a∧g.a < g.b)∧g.b≤100000
 | _,[],_,g,hg=>by cases hg
 | l,g::r,h,g',hg'=>by
  rw [grE] at h
  cases hx:(grX l g != 0) with
  | true =>
   rw [hx] at h
   have h:grX l g=0:=h
   rw [h] at hx; cases hx
  | false =>
   rw [hx] at h
   rcases List.mem_cons.1 hg' with rfl | hg'
   ·have h0:grX l g'=0:=by simpa using hx
    have h1:=firstOf_zero h0 (spanE g'.a g'.b 100000) (by simp)
    unfold spanE at h1
    cases hs:(decide (g'.a < 0)||decide (g'.b≤g'.a)||decide ((100000:Int) < g'.b)) with
    | true=>rw [hs] at h1; exact absurd h1 (by show ¬ (14:Int)=0; decide)
    | false =>
     simp only [Bool.or_eq_false_iff,decide_eq_false_iff_not] at hs
     omega
   ·exact ends_gr h g' hg'
theorem book_gr {l:List Ob} {G:List Gr} (h:bookE l G=0):grE l G=0:=by
 by_cases h1:(16:Int) < (l.length:Int)
 ·rw [bk_1 h1] at h; exact absurd h (by decide)
 ·by_cases h2:obE l []=0
  ·by_cases h3:(32:Int) < (G.length:Int)
   ·rw [bk_3 h1 h2 h3] at h; exact absurd h (by decide)
   ·rw [bk_4 h1 h2 h3] at h; exact h
  ·rw [bk_2 h1 h2] at h; exact absurd h h2
theorem ends_rg {G:List Gr} (h:∀ g∈G,(0≤g.a∧g.a < g.b)∧g.b≤100000):∀ e∈endsF G [0,100001],0≤e∧e≤100001:=by
 intro e he
 rcases (endsF_mem e G _).1 he with h1 | ⟨g,hg,h1⟩
 ·have h1:e=0∨e=100001:=by simpa using h1
  omega
 ·have:=h g hg
  omega
theorem days_link (l:List Ob) (G:List Gr) (of ri ob:Nm) (hG:G.length≤32) (h:∀ g∈G,(0≤g.a∧g.a < g.b)∧g.b≤100000):dayL (fun d=>(chainP l G ri ob d of).isSome) (endsF G [0,100001]) 100001 0 []=daysP l G of ri ob:=by
 unfold daysP
 have hm:∀ e,e∈Lib.compact (srtI (endsF G [0,100001]))↔e∈endsF G [0,100001]:=fun e=>(cmp_mem _ e).trans (srtI_mem _ e)
 have hl:(Lib.compact (srtI (endsF G [0,100001]))).length≤100001:=by
  refine Nat.le_trans (cmp_len _) ?_
  rw [srtI_len,endsF_len]
  show 2+2 * G.length≤100001
  omega
 exact days_eq _ _ _ (cmp_sorted _ (srtI_sorted _)) hm ((endsF_mem 0 G _).2 (.inl (by simp))) ((endsF_mem 100001 G _).2 (.inl (by simp))) (ends_rg h) 100001 hl
theorem pushD_len (d n:Int) (out:List (Int × Int)):(pushD d n out).length≤out.length+1:=by
 unfold pushD
 split
 ·rw [List.length_append]; exact Nat.le_refl _
 ·rename_i x _
  cases (x.2==d) with
  | true=>show (out.set _ _).length≤_; rw [List.length_set]; exact Nat.le_succ _
  | false=>show (out++[_]).length≤_; rw [List.length_append]; exact Nat.le_refl _
theorem cutL_len (p:Int→Bool):∀ (D:List Int) (out:List (Int × Int)),(cutL p D out).length≤out.length+D.length
 | [],out=>Nat.le_refl _
 | [a],out=>Nat.le_succ _
 | a::b::r,out=>by
  rw [cutL]
  have h1:=cutL_len p (b::r) (bif p a then pushD a b out else out)
  have h2:=pushD_len a b out
  have e:(a::b::r).length=(b::r).length+1:=rfl
  cases hp:p a with
  | true=>rw [hp] at h1; have h1:(cutL p (b::r) (pushD a b out)).length≤(pushD a b out).length+(b::r).length:=h1; show (cutL p (b::r) (pushD a b out)).length≤_; omega
  | false=>rw [hp] at h1; have h1:(cutL p (b::r) out).length≤out.length+(b::r).length:=h1; show (cutL p (b::r) out).length≤_; omega
theorem daysP_len (l:List Ob) (G:List Gr) (of ri ob:Nm) (hG:G.length≤32):(daysP l G of ri ob).length≤66:=by
 unfold daysP
 refine Nat.le_trans (cutL_len _ _ _) ?_
 have h1:=cmp_len (srtI (endsF G [0,100001]))
 rw [srtI_len,endsF_len] at h1
 have h1:(Lib.compact (srtI (endsF G [0,100001]))).length≤2+2 * G.length:=h1
 show 0+_≤_
 omega
theorem offL_le (p:Nm→Bool):∀ {G:List Gr} {L:List Nm},(offL p G L).length≤L.length+G.length
 | [],L=>Nat.le_refl _
 | g::r,L=>by
  rw [offL]
  have a2:=offL_le p (G:=r) (L:=L)
  have b2:=offL_le p (G:=r) (L:=L++[g.to])
  rw [List.length_append] at b2
  simp only [List.length_singleton] at b2
  have e:(g::r).length=r.length+1:=rfl
  cases hc:(p g.to&&!L.contains g.to) with
  | false=>rw [e]; show (offL p r L).length≤_; omega
  | true=>rw [e]; show (offL p r (L++[g.to])).length≤_; omega
theorem c4 (l:List Ob) (G:List Gr) (of ri ob:Nm) (day:Int) (hl:l.length≤1048576) (hG:G.length≤1048576):CallDet Tryz.prog 4 [.d (.agg [.slice 2 (obs l),.slice 6 (grs G)]),.d (.agg [.str of,.str ri,.str ob,.int .i64 day])] [.bool true]:=by
 have c11_:=c11 l G hl hG
 have c12_:=c12 of ri ob day
 have c15_:=c15 l G hl hG
 have c29_:=c29 l G ri ob day hl hG
 have c30_:=c30 l G of ri ob hl hG
 have c18_:=c18 l G hl hG
 have c20_:=c20 l G of ri ob day hl
 have c31_:=c31 l G ri ob hl
 have c21_:=c21 day
 refine call_of_vc (x:=jr4) (by kernel_rfl) rfl ?_
 cases hs:shortB l G with
 | false =>
  rw [hs] at c11_
  refine ca c11_ ?_
  refine sd ?_
  refine ca (c13) ?_
  exact rfl
 | true =>
 rw [hs] at c11_
 cases hs2:shortW [of,ri,ob] with
 | false =>
  rw [hs2] at c12_
  refine ca c11_ ?_
  refine ca c12_ ?_
  refine ca (c13) ?_
  exact rfl
 | true =>
 rw [hs2] at c12_
 by_cases hb:bookE l G=0
 ·have hG32:=bookE_le hb
  rw [hb] at c18_
  have c19_:CallDet Tryz.prog 19 [.d (.slice 1 [.int .i64 (askE l ri ob),.int .i64 (within3 day 0 100000)])] [.int .i64 (ofE l G ri ob day)]:=by
   rw [← ofE_2 hb]; exact c19 [askE l ri ob,within3 day 0 100000] (by simp)
  rw [qE_2 hb] at c20_
  have c32_:=c32 l G of ri ob day hl hG32
  have e1:(fun n=>(hoL ri ob day G (G.length+2) 0 [(ownO l ob).getD []] [0]).1.contains n)=(fun n=>(chainP l G ri ob day n).isSome):=funext fun n=>(chain_ref ri ob day n l G).1
  have e2:(hoL ri ob day G (G.length+2) 0 [(ownO l ob).getD []] [0]).1[0]?=some ((ownO l ob).getD []):=hoL_at (L:=[(ownO l ob).getD []]) Nat.one_pos
  rw [e1,e2] at c32_
  have c32_:CallDet Tryz.prog 32 [.d (.agg [.slice 2 (obs l),.slice 6 (grs G)]),.d (.agg [.str of,.str ri,.str ob,.int .i64 day])] [.slice 1 (strs (offL (fun n=>(chainP l G ri ob day n).isSome) G [(ownO l ob).getD []]))]:=c32_
  have c33_:=c33 l G of ri ob day hl hG32
  rw [days_link l G of ri ob hG32 (ends_gr (book_gr hb))] at c33_
  have hol:(offL (fun n=>(chainP l G ri ob day n).isSome) G [(ownO l ob).getD []]).length≤33:=Nat.le_trans (offL_le _) (by show 1+G.length≤33; omega)
  have hdl:=daysP_len l G of ri ob hG32
  generalize offL (fun n=>(chainP l G ri ob day n).isSome) G [(ownO l ob).getD []]=O at c29_ c32_ hol
  generalize daysP l G of ri ob=D at c30_ c33_ hdl
  clear e1 e2
  have c34_a:=c34 O (by omega)
  have c34_b:=c34 [] (by decide)
  have c35_a:=c35 D (by omega)
  have c35_b:=c35 [] (by decide)
  generalize ofE l G ri ob day=a at c19_ c29_
  generalize qE l G of ri ob=b at c20_ c30_
  by_cases ha:a=0
  ·subst ha
   by_cases hb0:b=0
   ·subst hb0
    clear c34_b c35_b
    have c29_:CallDet Tryz.prog 29 [.d (.agg [.slice 2 (obs l),.slice 6 (grs G)]),.d (.str ri),.d (.str ob),.d (.int .i64 day)] [.slice 1 (strs O),.int .i64 0]:=c29_
    have c30_:CallDet Tryz.prog 30 [.d (.agg [.slice 2 (obs l),.slice 6 (grs G)]),.d (.str of),.d (.str ri),.d (.str ob)] [.slice 2 (sps D),.int .i64 0]:=c30_
    refine ca c11_ ?_
    refine ca c12_ ?_
    refine ca c15_ ?_
    refine ca c29_ ?_
    refine ca c15_ ?_
    refine ca c30_ ?_
    refine ca c18_ ?_
    refine ca c18_ ?_
    refine sd ?_
    refine ca c31_ ?_
    refine ca c21_ ?_
    refine sd ?_
    refine sd ?_
    refine ca c19_ ?_
    refine ca c20_ ?_
    refine sd ?_
    refine ca c32_ ?_
    refine sd ?_
    refine ca c33_ ?_
    refine ca c34_a ?_
    refine sd ?_
    refine ca c35_a ?_
    refine sd ?_
    refine ca (c13) ?_
    exact rfl
   ·rw [bne_iff_ne.2 hb0] at c30_
    clear c34_b c35_a
    have c29_:CallDet Tryz.prog 29 [.d (.agg [.slice 2 (obs l),.slice 6 (grs G)]),.d (.str ri),.d (.str ob),.d (.int .i64 day)] [.slice 1 (strs O),.int .i64 0]:=c29_
    have c30_:CallDet Tryz.prog 30 [.d (.agg [.slice 2 (obs l),.slice 6 (grs G)]),.d (.str of),.d (.str ri),.d (.str ob)] [.slice 2 [],.int .i64 b]:=c30_
    refine ca c11_ ?_
    refine ca c12_ ?_
    refine ca c15_ ?_
    refine ca c29_ ?_
    refine ca c15_ ?_
    refine ca c30_ ?_
    refine ca c18_ ?_
    refine ca c18_ ?_
    refine sd ?_
    refine ca c31_ ?_
    refine ca c21_ ?_
    refine sd ?_
    refine sd ?_
    refine ca c19_ ?_
    refine ca c20_ ?_
    refine sd ?_
    refine ca c32_ ?_
    refine sd ?_
    refine b_eq (fun t1=>?_) (fun t1=>?_)
    (exfalso; omega)
    refine ca c34_a ?_
    refine sd ?_
    refine ca c35_b ?_
    refine sd ?_
    refine b_eq (fun t2=>?_) (fun t2=>?_)
    refine ca (c13) ?_
    exact rfl
    (exfalso; omega)
  ·rw [bne_iff_ne.2 ha] at c29_
   have c29_:CallDet Tryz.prog 29 [.d (.agg [.slice 2 (obs l),.slice 6 (grs G)]),.d (.str ri),.d (.str ob),.d (.int .i64 day)] [.slice 1 [],.int .i64 a]:=c29_
   by_cases hb0:b=0
   ·subst hb0
    clear c34_a c35_b
    have c30_:CallDet Tryz.prog 30 [.d (.agg [.slice 2 (obs l),.slice 6 (grs G)]),.d (.str of),.d (.str ri),.d (.str ob)] [.slice 2 (sps D),.int .i64 0]:=c30_
    refine ca c11_ ?_
    refine ca c12_ ?_
    refine ca c15_ ?_
    refine ca c29_ ?_
    refine ca c15_ ?_
    refine ca c30_ ?_
    refine ca c18_ ?_
    refine ca c18_ ?_
    refine sd ?_
    refine ca c31_ ?_
    refine ca c21_ ?_
    refine sd ?_
    refine sd ?_
    refine ca c19_ ?_
    refine ca c20_ ?_
    refine sd ?_
    refine b_eq (fun t1=>?_) (fun t1=>?_)
    (exfalso; omega)
    refine sd ?_
    refine ca c33_ ?_
    refine ca c34_b ?_
    refine sd ?_
    refine b_eq (fun t2=>?_) (fun t2=>?_)
    refine ca c35_a ?_
    refine sd ?_
    refine ca (c13) ?_
    exact rfl
    (exfalso; omega)
   ·rw [bne_iff_ne.2 hb0] at c30_
    clear c34_a c35_a
    have c30_:CallDet Tryz.prog 30 [.d (.agg [.slice 2 (obs l),.slice 6 (grs G)]),.d (.str of),.d (.str ri),.d (.str ob)] [.slice 2 [],.int .i64 b]:=c30_
    refine ca c11_ ?_
    refine ca c12_ ?_
    refine ca c15_ ?_
    refine ca c29_ ?_
    refine ca c15_ ?_
    refine ca c30_ ?_
    refine ca c18_ ?_
    refine ca c18_ ?_
    refine sd ?_
    refine ca c31_ ?_
    refine ca c21_ ?_
    refine sd ?_
    refine sd ?_
    refine ca c19_ ?_
    refine ca c20_ ?_
    refine sd ?_
    refine b_eq (fun t1=>?_) (fun t1=>?_)
    (exfalso; omega)
    refine sd ?_
    refine b_eq (fun t2=>?_) (fun t2=>?_)
    (exfalso; omega)
    refine ca c34_b ?_
    refine sd ?_
    refine b_eq (fun t3=>?_) (fun t3=>?_)
    refine ca c35_b ?_
    refine sd ?_
    refine b_eq (fun t4=>?_) (fun t4=>?_)
    refine ca (c13) ?_
    exact rfl
    (exfalso; omega)
    (exfalso; omega)
 ·rw [ofE_1 hb,bne_iff_ne.2 hb] at c29_
  rw [qE_1 hb,bne_iff_ne.2 hb] at c30_
  have c29_:CallDet Tryz.prog 29 [.d (.agg [.slice 2 (obs l),.slice 6 (grs G)]),.d (.str ri),.d (.str ob),.d (.int .i64 day)] [.slice 1 [],.int .i64 (bookE l G)]:=c29_
  have c30_:CallDet Tryz.prog 30 [.d (.agg [.slice 2 (obs l),.slice 6 (grs G)]),.d (.str of),.d (.str ri),.d (.str ob)] [.slice 2 [],.int .i64 (bookE l G)]:=c30_
  have c34_b:=c34 [] (by decide)
  have c35_b:=c35 [] (by decide)
  generalize bookE l G=e at c18_ c29_ c30_ hb
  refine ca c11_ ?_
  refine ca c12_ ?_
  refine ca c15_ ?_
  refine ca c29_ ?_
  refine ca c15_ ?_
  refine ca c30_ ?_
  refine ca c18_ ?_
  refine ca c18_ ?_
  refine sd ?_
  refine b_eq (fun t1=>?_) (fun t1=>?_)
  (exfalso; omega)
  refine sd ?_
  refine b_eq (fun t2=>?_) (fun t2=>?_)
  (exfalso; omega)
  refine sd ?_
  refine b_eq (fun t3=>?_) (fun t3=>?_)
  (exfalso; omega)
  refine ca c34_b ?_
  refine sd ?_
  refine b_eq (fun t4=>?_) (fun t4=>?_)
  refine ca c35_b ?_
  refine sd ?_
  refine b_eq (fun t5=>?_) (fun t5=>?_)
  refine ca (c13) ?_
  exact rfl
  (exfalso; omega)
  (exfalso; omega)
end Vc
