import Derived.Test.YtifgdpnmgeffbaaGreatDoorG24
set_option linter.unusedSectionVars false
set_option linter.unusedVariables false
set_option linter.unusedSimpArgs false
set_option maxRecDepth 10000
set_option maxHeartbeats 4000000
namespace Vc
open Go Go.Proofs
def jr29:AFun:=⟨73,7,[.tmp 8,.tmp 9],
 (.seq
 (.reg [0] [⟨some 4,.cbx 0 2 (.tmp 0),none⟩,
  ⟨some 8,.mov (.cst (.nils 1)),none⟩,
  ⟨some 9,.mov (.cst (.d (.int .i64 0))),none⟩])
 (.seq
  (.reg [1] [⟨some 19,.ld true 2 (.tmp 4),none⟩,
   ⟨some 20,.mov (.tmp 1),none⟩,
   ⟨some 21,.mov (.tmp 2),none⟩,
   ⟨some 22,.build [(.nils 2),(.nils 6),(.d (.str [])),(.d (.str []))] [(0,2,(.tmp 19)),(2,1,(.tmp 20)),(3,1,(.tmp 21))],none⟩,
   ⟨some 10,.alloc 1 [(.nils 2),(.nils 6),(.d (.str [])),(.d (.str []))],none⟩,
   ⟨none,.st 4 (.tmp 10) (.tmp 22),none⟩])
  (.seq
  (.seq
   (.regd [2] [⟨some 23,.ld true 2 (.tmp 4),none⟩,
    ⟨some 24,.call 27 [(.tmp 23)],none⟩,
    ⟨some 25,.ld true 4 (.tmp 10),none⟩,
    ⟨some 26,.call 117 [(.tmp 25)],none⟩,
    ⟨some 27,.mov (.tmp 3),none⟩,
    ⟨some 28,.call 101 [(.tmp 27)],none⟩,
    ⟨some 29,.bsl 2 32 1 3 [(.int .i64 0),(.int .i64 0),(.int .i64 0)] [(0,(.tmp 24)),(1,(.tmp 26)),(2,(.tmp 28))],none⟩,
    ⟨some 30,.call 99 [(.tmp 29)],none⟩,
    ⟨some 11,.mov (.tmp 30),none⟩] [(0,2),(1,2),(0,4),(1,4),(2,4),(3,4)])
   (.seq
   (.reg [] [⟨some 31,.mov (.tmp 11),none⟩,
    ⟨some 32,.cmp .neq (.tmp 31) (.cst (.d (.int .i64 0))),none⟩])
   (.cond (.tmp 32)
    (.seq
    (.reg [] [⟨some 33,.mov (.tmp 11),none⟩,
     ⟨some 8,.mov (.cst (.nils 1)),none⟩,
     ⟨some 9,.mov (.tmp 33),none⟩])
    .ret)
    .skip)))
  (.seq
   (.reg [] [⟨some 35,.fad 0 (.tmp 10),none⟩,
    ⟨some 36,.ld true 2 (.tmp 35),none⟩,
    ⟨some 37,.mov (.tmp 2),none⟩,
    ⟨some 38,.call 107 [(.tmp 36),(.tmp 37)],none⟩,
    ⟨some 34,.mov (.tmp 38),none⟩,
    ⟨some 39,.ext 0 (.tmp 34),none⟩,
    ⟨some 40,.ext 1 (.tmp 34),none⟩,
    ⟨some 12,.mov (.tmp 39),none⟩,
    ⟨some 13,.mov (.tmp 40),none⟩])
   (.seq
   (.reg [3] [⟨some 41,.mov (.tmp 12),none⟩,
    ⟨some 42,.bsl 3 9 1 1 [(.str [])] [(0,(.tmp 41))],none⟩,
    ⟨some 14,.mov (.tmp 42),none⟩])
   (.seq
    (.seq
    (.reg [] [⟨some 43,.fad 1 (.tmp 4),none⟩,
     ⟨some 44,.ld false 1 (.tmp 43),none⟩,
     ⟨some 45,.len (.tmp 44),none⟩,
     ⟨some 46,.mov (.cst (.d (.int .i64 0))),none⟩])
    (.post [14] [0,1,2,3,4,5,6]
     (.block 0
     (.asrow 6 9 1 14
      (.keep [3,10,14,44,45,46] [0,1,2,3]
      (.loop
       (.post [3,10,14,44,45,46] [4,5,6]
       (.seq
        (.reg [] [⟨some 47,.cmp .lss (.tmp 46) (.tmp 45),none⟩])
        (.seq
        (.cond (.tmp 47)
         .skip
         (.exit 0))
        (.seq
         (.block 1
         (.seq
          (.reg [4] [⟨some 48,.ixa 6 (.tmp 44) (.tmp 46),none⟩,
           ⟨some 49,.ld true 6 (.tmp 48),none⟩,
           ⟨some 16,.alloc 4 [(.d (.str [])),(.d (.str [])),(.d (.str [])),(.d (.str [])),(.d (.int .i64 0)),(.d (.int .i64 0))],none⟩,
           ⟨none,.st 6 (.tmp 16) (.tmp 49),none⟩])
          (.seq
          (.reg [] [⟨some 51,.ld true 4 (.tmp 10),none⟩,
           ⟨some 52,.fad 1 (.tmp 16),none⟩,
           ⟨some 53,.ld false 1 (.tmp 52),none⟩,
           ⟨some 54,.mov (.tmp 3),none⟩,
           ⟨some 55,.call 102 [(.tmp 51),(.tmp 53),(.tmp 54)],none⟩,
           ⟨some 50,.mov (.tmp 55),none⟩,
           ⟨some 56,.ext 0 (.tmp 50),none⟩,
           ⟨some 57,.ext 1 (.tmp 50),none⟩,
           ⟨some 17,.mov (.tmp 56),none⟩,
           ⟨some 18,.mov (.tmp 57),none⟩])
          (.seq
           (.reg [] [⟨some 58,.mov (.tmp 18),none⟩,
            ⟨some 59,.mov (.tmp 58),none⟩,
            ⟨some 60,.mov (.tmp 14),some (59,true)⟩,
            ⟨some 61,.fad 1 (.tmp 16),some (59,true)⟩,
            ⟨some 62,.ld false 1 (.tmp 61),some (59,true)⟩,
            ⟨some 63,.call 118 [(.tmp 60),(.tmp 62)],some (59,true)⟩,
            ⟨some 64,.not (.tmp 63),some (59,true)⟩,
            ⟨some 65,.pick (.tmp 59) (.tmp 64) (.cst (.d (.bool false))),none⟩])
           (.cond (.tmp 65)
           (.reg [5,6] [⟨some 66,.mov (.tmp 14),none⟩,
            ⟨some 67,.fad 1 (.tmp 16),none⟩,
            ⟨some 68,.ld false 1 (.tmp 67),none⟩,
            ⟨some 69,.bsl 5 9 1 1 [(.str [])] [(0,(.tmp 68))],none⟩,
            ⟨some 70,.app 6 9 1 16 (.tmp 66) (.tmp 69),none⟩,
            ⟨some 14,.mov (.tmp 70),none⟩])
           .skip)))))
         (.reg [] [⟨some 71,.arith .add .i64 (.tmp 46) (.cst (.d (.int .i64 1))),none⟩,
          ⟨some 46,.mov (.tmp 71),none⟩])))))))))))
    (.seq
    (.reg [] [⟨some 72,.mov (.tmp 14),none⟩,
     ⟨some 8,.mov (.tmp 72),none⟩,
     ⟨some 9,.mov (.cst (.d (.int .i64 0))),none⟩])
    .ret)))))))⟩
def jr118:AFun:=⟨9,0,[.tmp 4],
 (.seq
 (.reg [] [⟨some 4,.mov (.cst (.d (.bool false))),none⟩])
 (.seq
  (.reg [] [⟨some 5,.mov (.tmp 0),none⟩,
   ⟨some 6,.mov (.tmp 1),none⟩,
   ⟨some 7,.call 166 [(.tmp 5),(.tmp 6)],none⟩,
   ⟨some 8,.cmp .geq (.tmp 7) (.cst (.d (.int .i64 0))),none⟩,
   ⟨some 4,.mov (.tmp 8),none⟩])
  .ret))⟩
def jr166:AFun:=⟨19,0,[.tmp 4],
 (.seq
 (.reg [] [⟨some 4,.mov (.cst (.d (.int .i64 0))),none⟩])
 (.seq
  (.seq
  (.reg [] [⟨some 6,.mov (.tmp 0),none⟩,
   ⟨some 7,.len (.tmp 6),none⟩,
   ⟨some 8,.mov (.cst (.d (.int .i64 0))),none⟩])
  (.post [] []
   (.block 0
   (.keep [0,1,7,8] []
    (.loop
    (.post [0,1,7,8] []
     (.seq
     (.reg [] [⟨some 9,.cmp .lss (.tmp 8) (.tmp 7),none⟩])
     (.seq
      (.cond (.tmp 9)
      .skip
      (.exit 0))
      (.seq
      (.block 1
       (.seq
       (.reg [] [⟨some 10,.mov (.tmp 8),none⟩,
        ⟨some 5,.mov (.tmp 10),none⟩])
       (.seq
        (.reg [] [⟨some 11,.mov (.tmp 1),none⟩,
         ⟨some 12,.mov (.tmp 0),none⟩,
         ⟨some 13,.mov (.tmp 5),none⟩,
         ⟨some 14,.ixa 1 (.tmp 12) (.tmp 13),none⟩,
         ⟨some 15,.ld false 1 (.tmp 14),none⟩,
         ⟨some 16,.seq false (.tmp 11) (.tmp 15),none⟩])
        (.cond (.tmp 16)
        (.seq
         (.reg [] [⟨some 17,.mov (.tmp 5),none⟩,
          ⟨some 4,.mov (.tmp 17),none⟩])
         .ret)
        .skip))))
      (.reg [] [⟨some 18,.arith .add .i64 (.tmp 8) (.cst (.d (.int .i64 1))),none⟩,
       ⟨some 8,.mov (.tmp 18),none⟩]))))))))))
  (.seq
  (.reg [] [⟨some 4,.mov (.cst (.d (.int .i64 (-1)))),none⟩])
  .ret)))⟩
def offL (p:Nm→Bool):List Gr→List Nm→List Nm
 | [],L=>L
 | g::r,L=>bif p g.to&&!L.contains g.to then offL p r (L++[g.to]) else offL p r L
theorem c166 (c:List Nm) (n:Nm) (hc:c.length≤1048576):CallDet Tryz.prog 166 [.d (.slice 1 (strs c)),.d (.str n)] [.int .i64 (ixF (fun x=>n==x) c 0)]:=by
 have hlen:=strs_len c
 refine call_of_vc (x:=jr166) (by kernel_rfl) rfl ?_
 rotate_left
 refine loop_st (fun k:Nat=>⟨[(0,.d (.slice 1 (strs c))),(1,.d (.str n)),(7,.d (.int .i64 (((strs c).length:Nat):Int))),(8,.d (.int .i64 ((k:Nat))))],[]⟩) (fun k=>k≤c.length∧ixF (fun x=>n==x) c 0=ixF (fun x=>n==x) (c.drop k) (k:Int)) (fun k=>c.length - k) 0 rfl ⟨Nat.zero_le _,rfl⟩ ?_
 rintro k ⟨hk,hi⟩
 have hk:k≤c.length:=hk
 dsimp only
 by_cases hkn:k < c.length
 ·refine Exists.elim (get_lt c hkn) fun x hx=>?_
  have hx1:=strs_get hx
  rw [drop_at hx,ixF] at hi
  cases e:(n==x) with
  | true =>
   rw [e] at hi
   have hi:ixF (fun x=>n==x) c 0=(k:Int):=hi
   rw [hi]
   refine sd ?_
   refine b_lt (fun t1=>?_) (fun t1=>?_)
   refine ix_at hx1 ?_ ?_
   (show (0:Int)≤(↑k:Int); omega)
   refine b_t e ?_
   exact rfl
   (exfalso; omega)
  | false =>
   rw [e] at hi
   have hi:ixF (fun x=>n==x) c 0=ixF (fun x=>n==x) (c.drop (k+1)) ((k:Int)+1):=hi
   have fin:∃ a':Nat,((a'≤c.length∧ixF (fun x=>n==x) c 0=ixF (fun x=>n==x) (c.drop a') (a':Int))∧c.length - a' < c.length - k)∧(⟨[(0,.d (.slice 1 (strs c))),(1,.d (.str n)),(7,.d (.int .i64 (((strs c).length:Nat):Int))),(8,.d (.int .i64 ((k:Int)+1)))],[]⟩:St)=⟨[(0,.d (.slice 1 (strs c))),(1,.d (.str n)),(7,.d (.int .i64 (((strs c).length:Nat):Int))),(8,.d (.int .i64 (a':Nat)))],[]⟩:=⟨k+1,⟨⟨by omega,hi⟩,by omega⟩,rfl⟩
   refine sd ?_
   refine b_lt (fun t1=>?_) (fun t1=>?_)
   refine ix_at hx1 ?_ ?_
   (show (0:Int)≤(↑k:Int); omega)
   refine b_f e ?_
   refine ar_add ?_ ?_
   refine an ?_ ?_
   (show (-9223372036854775808:Int)≤(↑k:Int)+(1:Int); omega)
   (show (↑k:Int)+(1:Int)≤(9223372036854775807:Int); omega)
   rotate_left
   (exfalso; omega)
   all_goals exact fin
 ·have e:k=c.length:=by omega
  subst e
  rw [List.drop_eq_nil_of_le (Nat.le_refl _)] at hi
  have hi:ixF (fun x=>n==x) c 0=-1:=hi
  rw [hi]
  refine sd ?_
  refine b_lt (fun t1=>?_) (fun t1=>?_)
  (exfalso; omega)
  exact rfl
theorem c118 (c:List Nm) (n:Nm) (hc:c.length≤1048576):CallDet Tryz.prog 118 [.d (.slice 1 (strs c)),.d (.str n)] [.bool (c.contains n)]:=by
 have c166_:=c166 c n hc
 have e:=ixF_any (fun x=>n==x) c 0 (Int.le_refl _)
 have e2:c.contains n=c.any (fun x=>n==x):=by rw [List.contains_eq_any_beq]
 rw [e2,← e]
 refine call_of_vc (x:=jr118) (by kernel_rfl) rfl ?_
 refine ca c166_ ?_
 refine sd ?_
 exact rfl
end Vc
