import Derived.Test.YtmffgalmdnpcgaaGreatDoorG15
set_option linter.unusedSectionVars false
set_option linter.unusedVariables false
set_option linter.unusedSimpArgs false
set_option maxRecDepth 10000
set_option maxHeartbeats 4000000
namespace Vc
open Go Go.Proofs
theorem first_app {es fs:List Int} {v:Int} (h:firstOf fs=v):firstOf (es++fs)=bif firstOf es != 0 then firstOf es else v:=by
 induction es with
 | nil=>exact h
 | cons e r ih =>
  rw [List.cons_append,firstOf,firstOf,ih]
  cases h2:(e != 0)
  ·rfl
  ·rw [cond_true,cond_true,h2]; rfl
theorem first_one (e:Int):firstOf [e]=e:=by
 rw [firstOf]
 cases h2:(e != 0)
 ·have:e=0:=by simpa using h2
  rw [this]; rfl
 ·rfl
def jr107:AFun:=⟨82,2,[.tmp 4],
 (.seq
 (.reg [] [⟨some 4,.mov (.cst (.d (.int .i64 0))),none⟩])
 (.seq
  (.seq
  (.reg [0] [⟨some 8,.mov (.tmp 0),none⟩,
   ⟨some 9,.len (.tmp 8),none⟩,
   ⟨some 10,.cmp .eql (.tmp 9) (.cst (.d (.int .i64 0))),none⟩,
   ⟨some 11,.call 27 [(.tmp 10),(.cst (.d (.int .i64 12)))],none⟩,
   ⟨some 12,.mov (.tmp 0),none⟩,
   ⟨some 13,.len (.tmp 12),none⟩,
   ⟨some 14,.cmp .gtr (.tmp 13) (.cst (.d (.int .i64 12))),none⟩,
   ⟨some 15,.call 27 [(.tmp 14),(.cst (.d (.int .i64 5)))],none⟩,
   ⟨some 16,.bsl 0 3 1 2 [(.int .i64 0),(.int .i64 0)] [(0,(.tmp 11)),(1,(.tmp 15))],none⟩,
   ⟨some 17,.call 24 [(.tmp 16)],none⟩,
   ⟨some 5,.mov (.tmp 17),none⟩])
  (.seq
   (.reg [] [⟨some 18,.mov (.tmp 5),none⟩,
    ⟨some 19,.cmp .neq (.tmp 18) (.cst (.d (.int .i64 0))),none⟩])
   (.cond (.tmp 19)
   (.seq
    (.reg [] [⟨some 20,.mov (.tmp 5),none⟩,
     ⟨some 4,.mov (.tmp 20),none⟩])
    .ret)
   .skip)))
  (.seq
  (.seq
   (.reg [] [⟨some 6,.mov (.cst (.d (.int .i64 0))),none⟩])
   (.post [] [0,1]
   (.block 0
    (.keep [0,1,6] [0]
    (.loop
     (.post [0,1,6] [1]
     (.seq
      (.seq
      (.reg [] [⟨some 21,.mov (.tmp 6),none⟩,
       ⟨some 22,.mov (.tmp 0),none⟩,
       ⟨some 23,.len (.tmp 22),none⟩,
       ⟨some 24,.cmp .lss (.tmp 21) (.tmp 23),none⟩])
      (.cond (.tmp 24)
       .skip
       (.exit 0)))
      (.seq
      (.block 1
       (.seq
       (.seq
        (.regd [1] [⟨some 27,.mov (.tmp 0),none⟩,
         ⟨some 28,.mov (.tmp 6),none⟩,
         ⟨some 29,.ixa 2 (.tmp 27) (.tmp 28),none⟩,
         ⟨some 30,.fad 0 (.tmp 29),none⟩,
         ⟨some 31,.ld false 1 (.tmp 30),none⟩,
         ⟨some 32,.call 70 [(.tmp 31),(.cst (.d (.int .i64 0))),(.cst (.d (.int .i64 86399)))],none⟩,
         ⟨some 33,.mov (.tmp 0),none⟩,
         ⟨some 34,.mov (.tmp 6),none⟩,
         ⟨some 35,.ixa 2 (.tmp 33) (.tmp 34),none⟩,
         ⟨some 36,.fad 1 (.tmp 35),none⟩,
         ⟨some 37,.ld false 1 (.tmp 36),none⟩,
         ⟨some 38,.cmp .lss (.tmp 37) (.cst (.d (.int .i64 0))),none⟩,
         ⟨some 39,.mov (.tmp 38),none⟩,
         ⟨some 40,.mov (.tmp 0),some (39,false)⟩,
         ⟨some 41,.mov (.tmp 6),some (39,false)⟩,
         ⟨some 42,.ixa 2 (.tmp 40) (.tmp 41),some (39,false)⟩,
         ⟨some 43,.fad 1 (.tmp 42),some (39,false)⟩,
         ⟨some 44,.ld false 1 (.tmp 43),some (39,false)⟩,
         ⟨some 45,.mov (.tmp 1),some (39,false)⟩,
         ⟨some 46,.cmp .geq (.tmp 44) (.tmp 45),some (39,false)⟩,
         ⟨some 47,.pick (.tmp 39) (.cst (.d (.bool true))) (.tmp 46),none⟩,
         ⟨some 48,.call 27 [(.tmp 47),(.cst (.d (.int .i64 10)))],none⟩,
         ⟨some 49,.bsl 1 3 1 2 [(.int .i64 0),(.int .i64 0)] [(0,(.tmp 32)),(1,(.tmp 48))],none⟩,
         ⟨some 50,.call 24 [(.tmp 49)],none⟩,
         ⟨some 7,.mov (.tmp 50),none⟩] [(0,1),(0,6),(1,6),(2,6),(3,6),(4,6),(5,6),(0,7),(1,7),(2,7),(3,7),(4,7),(5,7),(6,7),(0,8),(1,8),(2,8),(3,8),(4,8),(5,8),(0,9),(1,9),(2,9),(3,9),(4,9),(5,9),(0,10),(1,10),(2,10),(3,10),(4,10),(5,10),(0,11),(1,11),(2,11),(3,11),(4,11),(5,11),(13,14),(13,18),(14,18),(15,18),(16,18),(17,18)])
        (.seq
        (.reg [] [⟨some 51,.mov (.tmp 7),none⟩,
         ⟨some 52,.cmp .neq (.tmp 51) (.cst (.d (.int .i64 0))),none⟩])
        (.cond (.tmp 52)
         (.seq
         (.reg [] [⟨some 53,.mov (.tmp 7),none⟩,
          ⟨some 4,.mov (.tmp 53),none⟩])
         .ret)
         .skip)))
       (.seq
        (.regd [] [⟨some 54,.mov (.tmp 6),none⟩,
         ⟨some 55,.cmp .eql (.tmp 54) (.cst (.d (.int .i64 0))),none⟩,
         ⟨some 56,.mov (.tmp 55),none⟩,
         ⟨some 57,.mov (.tmp 0),some (56,true)⟩,
         ⟨some 58,.mov (.tmp 6),some (56,true)⟩,
         ⟨some 59,.ixa 2 (.tmp 57) (.tmp 58),some (56,true)⟩,
         ⟨some 60,.fad 0 (.tmp 59),some (56,true)⟩,
         ⟨some 61,.ld false 1 (.tmp 60),some (56,true)⟩,
         ⟨some 62,.cmp .neq (.tmp 61) (.cst (.d (.int .i64 0))),some (56,true)⟩,
         ⟨some 63,.pick (.tmp 56) (.tmp 62) (.cst (.d (.bool false))),none⟩,
         ⟨some 64,.mov (.tmp 63),none⟩,
         ⟨some 65,.mov (.tmp 6),some (64,false)⟩,
         ⟨some 66,.cmp .gtr (.tmp 65) (.cst (.d (.int .i64 0))),some (64,false)⟩,
         ⟨some 67,.mov (.tmp 66),some (64,false)⟩,
         ⟨some 68,.mov (.tmp 0),some (67,true)⟩,
         ⟨some 69,.mov (.tmp 6),some (67,true)⟩,
         ⟨some 70,.ixa 2 (.tmp 68) (.tmp 69),some (67,true)⟩,
         ⟨some 71,.fad 0 (.tmp 70),some (67,true)⟩,
         ⟨some 72,.ld false 1 (.tmp 71),some (67,true)⟩,
         ⟨some 73,.mov (.tmp 0),some (67,true)⟩,
         ⟨some 74,.mov (.tmp 6),some (67,true)⟩,
         ⟨some 75,.arith .sub .i64 (.tmp 74) (.cst (.d (.int .i64 1))),some (67,true)⟩,
         ⟨some 76,.ixa 2 (.tmp 73) (.tmp 75),some (67,true)⟩,
         ⟨some 77,.fad 0 (.tmp 76),some (67,true)⟩,
         ⟨some 78,.ld false 1 (.tmp 77),some (67,true)⟩,
         ⟨some 79,.cmp .leq (.tmp 72) (.tmp 78),some (67,true)⟩,
         ⟨some 80,.pick (.tmp 67) (.tmp 79) (.cst (.d (.bool false))),some (64,false)⟩,
         ⟨some 81,.pick (.tmp 64) (.cst (.d (.bool true))) (.tmp 80),none⟩] [(3,4),(14,15),(14,19),(15,19),(16,19),(17,19),(18,19),(14,20),(15,20),(16,20),(17,20),(18,20),(19,20),(14,21),(15,21),(16,21),(17,21),(18,21),(19,21),(14,22),(15,22),(16,22),(17,22),(18,22),(14,23),(15,23),(16,23),(17,23),(18,23),(14,24),(15,24),(16,24),(17,24),(18,24)])
        (.cond (.tmp 81)
        (.seq
         (.reg [] [⟨some 4,.mov (.cst (.d (.int .i64 11))),none⟩])
         .ret)
        .skip))))
      (.reg [] [⟨some 25,.mov (.tmp 6),none⟩,
       ⟨some 26,.arith .add .i64 (.tmp 25) (.cst (.d (.int .i64 1))),none⟩,
       ⟨some 6,.mov (.tmp 26),none⟩])))))))))
  (.seq
   (.reg [] [⟨some 4,.mov (.cst (.d (.int .i64 0))),none⟩])
   .ret))))⟩
theorem c107 (l:List (Int × Int)) (hl:l.length≤1048576) (n:Int):CallDet Tryz.prog 107 [.d (.slice 2 (sws l)),.d (.int .i64 n)] [.int .i64 (tyE n l)]:=by
 have hlen:=sws_len l
 have c27_1:=c27 ((((sws l).length:Nat):Int)==0) 12
 have c27_2:=c27 (decide (12 < (((sws l).length:Nat):Int))) 5
 have c24_:CallDet Tryz.prog 24 [.d (.slice 1 [.int .i64 (bif (((sws l).length:Nat):Int)==0 then 12 else 0),.int .i64 (bif decide (12 < (((sws l).length:Nat):Int)) then 5 else 0)])] [.int .i64 (cntE ((sws l).length:Nat) 12)]:=c24 [bif (((sws l).length:Nat):Int)==0 then 12 else 0,bif decide (12 < (((sws l).length:Nat):Int)) then 5 else 0] (by simp)
 refine call_of_vc (x:=jr107) (by kernel_rfl) rfl ?_
 refine sd ?_
 refine ca c27_1 ?_
 refine sd ?_
 refine ca c27_2 ?_
 refine sd ?_
 refine sd ?_
 refine ca c24_ ?_
 refine sd ?_
 refine b_ne (fun t1=>?_) (fun t1=>?_)
 rotate_left
 rotate_left
 ·rw [hlen] at t1 ⊢
  exact res_c (by unfold tyE; rw [bne_t t1]; rfl)
 have hE:tyE n l=scE (swE n) l:=by
  rw [hlen] at t1
  unfold tyE; rw [t1]; rfl
 refine loop_st (fun k:Nat=>⟨[(0,.d (.slice 2 (sws l))),(1,.d (.int .i64 n)),(6,.d (.int .i64 (k:Int)))],[.none,.none]⟩) (fun k=>k≤l.length∧scanE (gE (swE n) l) (l.length - k) k=scE (swE n) l) (fun k=>l.length - k) 0 rfl ⟨Nat.zero_le _,rfl⟩ ?_
 rintro k ⟨hk,hI⟩
 dsimp only
 by_cases hkn:k < l.length
 ·refine Exists.elim (get_lt l hkn) fun x hx=>?_
  refine Exists.elim (prev_at hkn) fun p hp=>?_
  have hp2:l[k - 1]?=some p:=by rw [← hp]; congr 1; omega
  have hp3:l[((k:Int) - 1).toNat]?=some p:=by rw [← hp2]; congr 1; omega
  have hg:=gE_at (swE n) hx hp2
  have hit:(swE n) x k p≠0→resV [.int .i64 ((swE n) x k p)]=resV [.int .i64 (tyE n l)]:=fun t=>res_c ((hE.trans (scan_hit hI hkn hg t)).symm)
  have fin:(swE n) x k p=0→∃ a':Nat,((a'≤l.length∧scanE (gE (swE n) l) (l.length - a') a'=scE (swE n) l)∧l.length - a' < l.length - k)∧(⟨[(0,.d (.slice 2 (sws l))),(1,.d (.int .i64 n)),(6,.d (.int .i64 ((k:Int)+1)))],[.none,.none]⟩:St)=⟨[(0,.d (.slice 2 (sws l))),(1,.d (.int .i64 n)),(6,.d (.int .i64 (a':Int)))],[.none,.none]⟩:=fun t=>⟨k+1,⟨⟨by omega,scan_go hI hkn hg t⟩,by omega⟩,rfl⟩
  have hx1:=sws_at hx
  have hp1:(sws l)[((k:Int) - 1).toNat]?=some (.agg [.int .i64 p.1,.int .i64 p.2]):=by unfold sws; rw [List.getElem?_map,hp3]; rfl
  have c70_:=c70 x.1 0 86399
  have hv:swE n x k p=bif firstOf [within3 x.1 0 86399,bif decide (x.2 < 0)||decide (n≤x.2) then 10 else 0] != 0 then firstOf [within3 x.1 0 86399,bif decide (x.2 < 0)||decide (n≤x.2) then 10 else 0] else ascE k x.1 p.1:=by
   unfold swE; rw [← first_app (es:=[within3 x.1 0 86399,bif decide (x.2 < 0)||decide (n≤x.2) then 10 else 0]) (fs:=[ascE k x.1 p.1]) (first_one _)]; rfl
  by_cases h2:x.2 < 0
  ·have e:firstOf [within3 x.1 0 86399,bif decide (x.2 < 0)||decide (n≤x.2) then 10 else 0]=firstOf [within3 x.1 0 86399,10]:=by rw [decide_eq_true h2]; rfl
   have c27_:=c27 true 10
   have c24_:CallDet Tryz.prog 24 [.d (.slice 1 (ints [within3 x.1 0 86399,10]))] [.int .i64 (firstOf [within3 x.1 0 86399,10])]:=c24 _ (by simp)
   unfold ints at c24_
   rw [← e] at c24_
   generalize firstOf [within3 x.1 0 86399,bif decide (x.2 < 0)||decide (n≤x.2) then 10 else 0]=w at *
   refine sd ?_
   refine b_lt (fun t2=>?_) (fun t2=>?_)
   refine ix_at hx1 ?_ ?_
   (show (0:Int)≤(↑k:Int); omega)
   refine ca c70_ ?_
   refine ix_at hx1 ?_ ?_
   (show (0:Int)≤(↑k:Int); omega)
   refine sd ?_
   refine b_lt (fun t3=>?_) (fun t3=>?_)
   refine sd ?_
   refine ca c27_ ?_
   refine sd ?_
   refine sd ?_
   refine ca c24_ ?_
   refine sd ?_
   refine b_ne (fun t4=>?_) (fun t4=>?_)
   rotate_left
   refine sd ?_
   refine b_eq (fun t5=>?_) (fun t5=>?_)
   refine ix_at hx1 ?_ ?_
   (show (0:Int)≤(↑k:Int); omega)
   refine sd ?_
   refine b_ne (fun t6=>?_) (fun t6=>?_)
   refine sd ?_
   rotate_left
   refine sd ?_
   refine b_lt (fun t7=>?_) (fun t7=>?_)
   (exfalso; omega)
   refine sd ?_
   refine ar_add ?_ ?_
   refine an ?_ ?_
   (show (-9223372036854775808:Int)≤(↑k:Int)+(1:Int); omega)
   (show (↑k:Int)+(1:Int)≤(9223372036854775807:Int); omega)
   rotate_left
   refine sd ?_
   refine sd ?_
   refine b_lt (fun t8=>?_) (fun t8=>?_)
   refine ix_at hx1 ?_ ?_
   (show (0:Int)≤(↑k:Int); omega)
   refine ar_sub ?_ ?_
   refine an ?_ ?_
   (show (-9223372036854775808:Int)≤(↑k:Int) - (1:Int); omega)
   (show (↑k:Int) - (1:Int)≤(9223372036854775807:Int); omega)
   refine ix_at hp1 ?_ ?_
   (show (0:Int)≤(↑k:Int) - (1:Int); omega)
   refine sd ?_
   refine b_le (fun t9=>?_) (fun t9=>?_)
   rotate_left
   refine ar_add ?_ ?_
   refine an ?_ ?_
   (show (-9223372036854775808:Int)≤(↑k:Int)+(1:Int); omega)
   (show (↑k:Int)+(1:Int)≤(9223372036854775807:Int); omega)
   rotate_left
   (exfalso; omega)
   (exfalso; omega)
   (exfalso; omega)
   ·have e3:swE n x k p=w:=by rw [hv,bne_t t4]; rfl
    rw [← e3]; exact hit (by rw [e3]; exact t4)
   ·have e3:swE n x k p=11:=by rw [hv,t4]; exact if_pos (by omega)
    rw [← e3]; exact hit (by rw [e3]; decide)
   ·exact fin (by rw [hv,t4]; exact if_neg (by omega))
   ·have e3:swE n x k p=11:=by rw [hv,t4]; exact if_pos (by omega)
    rw [← e3]; exact hit (by rw [e3]; decide)
   ·exact fin (by rw [hv,t4]; exact if_neg (by omega))
   all_goals exact fin (by rw [hv,t4]; exact if_neg (by omega))
  ·have e:firstOf [within3 x.1 0 86399,bif decide (x.2 < 0)||decide (n≤x.2) then 10 else 0]=firstOf [within3 x.1 0 86399,bif decide (n≤x.2) then 10 else 0]:=by rw [decide_eq_false h2,Bool.false_or]
   have c27_:=c27 (decide (n≤x.2)) 10
   have c24_:CallDet Tryz.prog 24 [.d (.slice 1 (ints [within3 x.1 0 86399,bif decide (n≤x.2) then 10 else 0]))] [.int .i64 (firstOf [within3 x.1 0 86399,bif decide (n≤x.2) then 10 else 0])]:=c24 _ (by simp)
   unfold ints at c24_
   rw [← e] at c24_
   generalize firstOf [within3 x.1 0 86399,bif decide (x.2 < 0)||decide (n≤x.2) then 10 else 0]=w at *
   refine sd ?_
   refine b_lt (fun t2=>?_) (fun t2=>?_)
   refine ix_at hx1 ?_ ?_
   (show (0:Int)≤(↑k:Int); omega)
   refine ca c70_ ?_
   refine ix_at hx1 ?_ ?_
   (show (0:Int)≤(↑k:Int); omega)
   refine sd ?_
   refine b_lt (fun t3=>?_) (fun t3=>?_)
   (exfalso; omega)
   refine ix_at hx1 ?_ ?_
   (show (0:Int)≤(↑k:Int); omega)
   refine sd ?_
   refine ca c27_ ?_
   refine sd ?_
   refine sd ?_
   refine ca c24_ ?_
   refine sd ?_
   refine b_ne (fun t4=>?_) (fun t4=>?_)
   rotate_left
   refine sd ?_
   refine b_eq (fun t5=>?_) (fun t5=>?_)
   refine ix_at hx1 ?_ ?_
   (show (0:Int)≤(↑k:Int); omega)
   refine sd ?_
   refine b_ne (fun t6=>?_) (fun t6=>?_)
   refine sd ?_
   rotate_left
   refine sd ?_
   refine b_lt (fun t7=>?_) (fun t7=>?_)
   (exfalso; omega)
   refine sd ?_
   refine ar_add ?_ ?_
   refine an ?_ ?_
   (show (-9223372036854775808:Int)≤(↑k:Int)+(1:Int); omega)
   (show (↑k:Int)+(1:Int)≤(9223372036854775807:Int); omega)
   rotate_left
   refine sd ?_
   refine sd ?_
   refine b_lt (fun t8=>?_) (fun t8=>?_)
   refine ix_at hx1 ?_ ?_
   (show (0:Int)≤(↑k:Int); omega)
   refine ar_sub ?_ ?_
   refine an ?_ ?_
   (show (-9223372036854775808:Int)≤(↑k:Int) - (1:Int); omega)
   (show (↑k:Int) - (1:Int)≤(9223372036854775807:Int); omega)
   refine ix_at hp1 ?_ ?_
   (show (0:Int)≤(↑k:Int) - (1:Int); omega)
   refine sd ?_
   refine b_le (fun t9=>?_) (fun t9=>?_)
   rotate_left
   refine ar_add ?_ ?_
   refine an ?_ ?_
   (show (-9223372036854775808:Int)≤(↑k:Int)+(1:Int); omega)
   (show (↑k:Int)+(1:Int)≤(9223372036854775807:Int); omega)
   rotate_left
   (exfalso; omega)
   (exfalso; omega)
   ·have e3:swE n x k p=w:=by rw [hv,bne_t t4]; rfl
    rw [← e3]; exact hit (by rw [e3]; exact t4)
   ·have e3:swE n x k p=11:=by rw [hv,t4]; exact if_pos (by omega)
    rw [← e3]; exact hit (by rw [e3]; decide)
   ·exact fin (by rw [hv,t4]; exact if_neg (by omega))
   ·have e3:swE n x k p=11:=by rw [hv,t4]; exact if_pos (by omega)
    rw [← e3]; exact hit (by rw [e3]; decide)
   ·exact fin (by rw [hv,t4]; exact if_neg (by omega))
   all_goals exact fin (by rw [hv,t4]; exact if_neg (by omega))
 ·have e:k=l.length:=by omega
  subst e
  refine sd ?_
  refine b_lt (fun t2=>?_) (fun t2=>?_)
  (exfalso; omega)
  rotate_left
  exact res_c ((hE.trans (scan_end hI)).symm)
end Vc
