import Derived.Test.YtifgdpnmgeffbaaGreatDoorG13
set_option linter.unusedSectionVars false
set_option linter.unusedVariables false
set_option linter.unusedSimpArgs false
set_option maxRecDepth 10000
set_option maxHeartbeats 4000000
namespace Vc
open Go Go.Proofs
def jr27:AFun:=⟨109,7,[.tmp 2],
 (.seq
 (.reg [0] [⟨some 1,.cbx 0 2 (.tmp 0),none⟩,
  ⟨some 2,.mov (.cst (.d (.int .i64 0))),none⟩])
 (.seq
  (.seq
  (.reg [] [⟨some 14,.fad 0 (.tmp 1),none⟩,
   ⟨some 15,.ld false 1 (.tmp 14),none⟩,
   ⟨some 16,.len (.tmp 15),none⟩,
   ⟨some 17,.cmp .gtr (.tmp 16) (.cst (.d (.int .i64 16))),none⟩])
  (.cond (.tmp 17)
   (.seq
   (.reg [] [⟨some 2,.mov (.cst (.d (.int .i64 5))),none⟩])
   .ret)
   .skip))
  (.seq
  (.reg [1] [⟨some 18,.mkm 1,none⟩,
   ⟨some 3,.mov (.tmp 18),none⟩])
  (.seq
   (.seq
   (.reg [] [⟨some 19,.fad 0 (.tmp 1),none⟩,
    ⟨some 20,.ld false 1 (.tmp 19),none⟩,
    ⟨some 21,.len (.tmp 20),none⟩,
    ⟨some 22,.mov (.cst (.d (.int .i64 0))),none⟩])
   (.post [1,3] [0,1,2,3]
    (.block 0
    (.keep [1,3,20,21,22] [0,1]
     (.loop
     (.post [1,3,20,21,22] [2,3]
      (.seq
      (.reg [] [⟨some 23,.cmp .lss (.tmp 22) (.tmp 21),none⟩])
      (.seq
       (.cond (.tmp 23)
       .skip
       (.exit 0))
       (.seq
       (.block 1
        (.seq
        (.reg [2] [⟨some 24,.ixa 2 (.tmp 20) (.tmp 22),none⟩,
         ⟨some 25,.ld true 2 (.tmp 24),none⟩,
         ⟨some 5,.alloc 2 [(.d (.str [])),(.d (.str []))],none⟩,
         ⟨none,.st 2 (.tmp 5) (.tmp 25),none⟩])
        (.seq
         (.seq
         (.regd [3] [⟨some 26,.fad 0 (.tmp 5),none⟩,
          ⟨some 27,.ld false 1 (.tmp 26),none⟩,
          ⟨some 28,.call 116 [(.tmp 27)],none⟩,
          ⟨some 29,.fad 1 (.tmp 5),none⟩,
          ⟨some 30,.ld false 1 (.tmp 29),none⟩,
          ⟨some 31,.call 116 [(.tmp 30)],none⟩,
          ⟨some 32,.mov (.tmp 3),none⟩,
          ⟨some 33,.fad 0 (.tmp 5),none⟩,
          ⟨some 34,.ld false 1 (.tmp 33),none⟩,
          ⟨some 35,.lkp none (.bool false) false (.tmp 32) (.tmp 34),none⟩,
          ⟨some 36,.call 103 [(.tmp 35),(.cst (.d (.int .i64 9)))],none⟩,
          ⟨some 37,.bsl 3 32 1 3 [(.int .i64 0),(.int .i64 0),(.int .i64 0)] [(0,(.tmp 28)),(1,(.tmp 31)),(2,(.tmp 36))],none⟩,
          ⟨some 38,.call 99 [(.tmp 37)],none⟩,
          ⟨some 6,.mov (.tmp 38),none⟩] [(0,3),(1,3),(2,3),(0,4),(1,4),(2,4),(0,6),(1,6),(2,6),(3,6),(4,6),(5,6),(0,7),(1,7),(2,7),(3,7),(4,7),(5,7),(6,7),(0,8),(1,8),(2,8),(3,8),(4,8),(5,8),(6,8),(0,9),(1,9),(2,9),(3,9),(4,9),(5,9)])
         (.seq
          (.reg [] [⟨some 39,.mov (.tmp 6),none⟩,
           ⟨some 40,.cmp .neq (.tmp 39) (.cst (.d (.int .i64 0))),none⟩])
          (.cond (.tmp 40)
          (.seq
           (.reg [] [⟨some 41,.mov (.tmp 6),none⟩,
            ⟨some 2,.mov (.tmp 41),none⟩])
           .ret)
          .skip)))
         (.reg [] [⟨some 42,.mov (.tmp 3),none⟩,
          ⟨some 43,.fad 0 (.tmp 5),none⟩,
          ⟨some 44,.ld false 1 (.tmp 43),none⟩,
          ⟨none,.mpu none (.tmp 42) (.tmp 44) (.cst (.d (.bool true))),none⟩]))))
       (.reg [] [⟨some 45,.arith .add .i64 (.tmp 22) (.cst (.d (.int .i64 1))),none⟩,
        ⟨some 22,.mov (.tmp 45),none⟩]))))))))))
   (.seq
   (.seq
    (.reg [] [⟨some 46,.fad 1 (.tmp 1),none⟩,
     ⟨some 47,.ld false 1 (.tmp 46),none⟩,
     ⟨some 48,.len (.tmp 47),none⟩,
     ⟨some 49,.cmp .gtr (.tmp 48) (.cst (.d (.int .i64 32))),none⟩])
    (.cond (.tmp 49)
    (.seq
     (.reg [] [⟨some 2,.mov (.cst (.d (.int .i64 5))),none⟩])
     .ret)
    .skip))
   (.seq
    (.seq
    (.reg [] [⟨some 50,.fad 1 (.tmp 1),none⟩,
     ⟨some 51,.ld false 1 (.tmp 50),none⟩,
     ⟨some 52,.len (.tmp 51),none⟩,
     ⟨some 53,.mov (.cst (.d (.int .i64 0))),none⟩])
    (.post [] [0,1,2,3,4,5,6]
     (.block 2
     (.keep [3,51,52,53] [0,1,2,3]
      (.loop
      (.post [3,51,52,53] [4,5,6]
       (.seq
       (.reg [] [⟨some 54,.cmp .lss (.tmp 53) (.tmp 52),none⟩])
       (.seq
        (.cond (.tmp 54)
        .skip
        (.exit 2))
        (.seq
        (.block 3
         (.seq
         (.reg [4] [⟨some 55,.ixa 6 (.tmp 51) (.tmp 53),none⟩,
          ⟨some 56,.ld true 6 (.tmp 55),none⟩,
          ⟨some 8,.alloc 4 [(.d (.str [])),(.d (.str [])),(.d (.str [])),(.d (.str [])),(.d (.int .i64 0)),(.d (.int .i64 0))],none⟩,
          ⟨none,.st 6 (.tmp 8) (.tmp 56),none⟩])
         (.seq
          (.seq
          (.reg [] [⟨some 57,.ld true 4 (.cst (.gp 0 0)),none⟩,
           ⟨some 58,.mov (.cst (.d (.int .i64 0))),none⟩])
          (.post [3,8,51,52,53] [0,1,2,3,4,5]
           (.block 4
           (.keep [3,8,51,52,53,57,58] [0,1,2,3,4]
            (.loop
            (.post [3,8,51,52,53,57,58] [5]
             (.seq
             (.reg [] [⟨some 59,.cmp .lss (.tmp 58) (.cst (.d (.int .i64 4))),none⟩])
             (.seq
              (.cond (.tmp 59)
              .skip
              (.exit 4))
              (.seq
              (.block 5
               (.seq
               (.reg [5] [⟨some 60,.ixv true 4 1 (.tmp 57) (.tmp 58),none⟩,
                ⟨some 10,.alloc 5 [.undef],none⟩,
                ⟨none,.st 1 (.tmp 10) (.tmp 60),none⟩])
               (.seq
                (.reg [] [⟨some 61,.fad 0 (.tmp 10),none⟩,
                 ⟨some 62,.ld false 1 (.tmp 61),none⟩,
                 ⟨some 63,.ld true 6 (.tmp 8),none⟩,
                 ⟨some 64,.callv (.tmp 62) [(.tmp 63)],none⟩,
                 ⟨some 65,.call 116 [(.tmp 64)],none⟩,
                 ⟨some 11,.mov (.tmp 65),none⟩])
                (.seq
                (.reg [] [⟨some 66,.mov (.tmp 11),none⟩,
                 ⟨some 67,.cmp .neq (.tmp 66) (.cst (.d (.int .i64 0))),none⟩])
                (.cond (.tmp 67)
                 (.seq
                 (.reg [] [⟨some 68,.mov (.tmp 11),none⟩,
                  ⟨some 2,.mov (.tmp 68),none⟩])
                 .ret)
                 .skip)))))
              (.reg [] [⟨some 69,.arith .add .i64 (.tmp 58) (.cst (.d (.int .i64 1))),none⟩,
               ⟨some 58,.mov (.tmp 69),none⟩]))))))))))
          (.seq
          (.reg [] [⟨some 70,.fad 4 (.tmp 8),none⟩,
           ⟨some 71,.fad 0 (.tmp 70),none⟩,
           ⟨some 72,.ld false 1 (.tmp 71),none⟩,
           ⟨some 73,.cmp .lss (.tmp 72) (.cst (.d (.int .i64 0))),none⟩,
           ⟨some 74,.mov (.tmp 73),none⟩,
           ⟨some 75,.fad 4 (.tmp 8),some (74,false)⟩,
           ⟨some 76,.fad 0 (.tmp 75),some (74,false)⟩,
           ⟨some 77,.ld false 1 (.tmp 76),some (74,false)⟩,
           ⟨some 78,.fad 4 (.tmp 8),some (74,false)⟩,
           ⟨some 79,.fad 1 (.tmp 78),some (74,false)⟩,
           ⟨some 80,.ld false 1 (.tmp 79),some (74,false)⟩,
           ⟨some 81,.cmp .geq (.tmp 77) (.tmp 80),some (74,false)⟩,
           ⟨some 82,.pick (.tmp 74) (.cst (.d (.bool true))) (.tmp 81),none⟩,
           ⟨some 83,.mov (.tmp 82),none⟩,
           ⟨some 84,.fad 4 (.tmp 8),some (83,false)⟩,
           ⟨some 85,.fad 1 (.tmp 84),some (83,false)⟩,
           ⟨some 86,.ld false 1 (.tmp 85),some (83,false)⟩,
           ⟨some 87,.cmp .gtr (.tmp 86) (.cst (.d (.int .i64 100000))),some (83,false)⟩,
           ⟨some 88,.pick (.tmp 83) (.cst (.d (.bool true))) (.tmp 87),none⟩,
           ⟨some 12,.mov (.tmp 88),none⟩])
          (.seq
           (.regd [6] [⟨some 89,.fad 0 (.tmp 8),none⟩,
            ⟨some 90,.ld false 1 (.tmp 89),none⟩,
            ⟨some 91,.fad 1 (.tmp 8),none⟩,
            ⟨some 92,.ld false 1 (.tmp 91),none⟩,
            ⟨some 93,.seq false (.tmp 90) (.tmp 92),none⟩,
            ⟨some 94,.call 103 [(.tmp 93),(.cst (.d (.int .i64 24)))],none⟩,
            ⟨some 95,.mov (.tmp 3),none⟩,
            ⟨some 96,.fad 3 (.tmp 8),none⟩,
            ⟨some 97,.ld false 1 (.tmp 96),none⟩,
            ⟨some 98,.lkp none (.bool false) false (.tmp 95) (.tmp 97),none⟩,
            ⟨some 99,.not (.tmp 98),none⟩,
            ⟨some 100,.call 103 [(.tmp 99),(.cst (.d (.int .i64 10)))],none⟩,
            ⟨some 101,.mov (.tmp 12),none⟩,
            ⟨some 102,.call 103 [(.tmp 101),(.cst (.d (.int .i64 14)))],none⟩,
            ⟨some 103,.bsl 6 32 1 3 [(.int .i64 0),(.int .i64 0),(.int .i64 0)] [(0,(.tmp 94)),(1,(.tmp 100)),(2,(.tmp 102))],none⟩,
            ⟨some 104,.call 99 [(.tmp 103)],none⟩,
            ⟨some 13,.mov (.tmp 104),none⟩] [(0,2),(1,2),(0,3),(1,3),(0,6),(1,6),(2,6),(3,6),(4,6),(5,6),(0,7),(1,7),(2,7),(3,7),(4,7),(5,7),(6,7),(0,8),(1,8),(2,8),(3,8),(4,8),(5,8),(6,8),(0,9),(1,9),(2,9),(3,9),(4,9),(5,9),(0,10),(1,10),(2,10),(3,10),(4,10),(5,10),(0,12),(1,12),(2,12),(3,12),(4,12),(5,12),(6,12),(7,12),(8,12),(9,12),(10,12),(11,12)])
           (.seq
           (.reg [] [⟨some 105,.mov (.tmp 13),none⟩,
            ⟨some 106,.cmp .neq (.tmp 105) (.cst (.d (.int .i64 0))),none⟩])
           (.cond (.tmp 106)
            (.seq
            (.reg [] [⟨some 107,.mov (.tmp 13),none⟩,
             ⟨some 2,.mov (.tmp 107),none⟩])
            .ret)
            .skip)))))))
        (.reg [] [⟨some 108,.arith .add .i64 (.tmp 53) (.cst (.d (.int .i64 1))),none⟩,
         ⟨some 53,.mov (.tmp 108),none⟩]))))))))))
    (.seq
    (.reg [] [⟨some 2,.mov (.cst (.d (.int .i64 0))),none⟩])
    .ret)))))))⟩
def jr252:AFun:=⟨5,1,[.tmp 2],
 (.seq
 (.reg [0] [⟨some 1,.cbx 0 6 (.tmp 0),none⟩,
  ⟨some 2,.mov (.cst (.d (.str []))),none⟩])
 (.seq
  (.reg [] [⟨some 3,.fad 0 (.tmp 1),none⟩,
   ⟨some 4,.ld false 1 (.tmp 3),none⟩,
   ⟨some 2,.mov (.tmp 4),none⟩])
  .ret))⟩
def jr253:AFun:=⟨5,1,[.tmp 2],
 (.seq
 (.reg [0] [⟨some 1,.cbx 0 6 (.tmp 0),none⟩,
  ⟨some 2,.mov (.cst (.d (.str []))),none⟩])
 (.seq
  (.reg [] [⟨some 3,.fad 1 (.tmp 1),none⟩,
   ⟨some 4,.ld false 1 (.tmp 3),none⟩,
   ⟨some 2,.mov (.tmp 4),none⟩])
  .ret))⟩
def jr254:AFun:=⟨5,1,[.tmp 2],
 (.seq
 (.reg [0] [⟨some 1,.cbx 0 6 (.tmp 0),none⟩,
  ⟨some 2,.mov (.cst (.d (.str []))),none⟩])
 (.seq
  (.reg [] [⟨some 3,.fad 2 (.tmp 1),none⟩,
   ⟨some 4,.ld false 1 (.tmp 3),none⟩,
   ⟨some 2,.mov (.tmp 4),none⟩])
  .ret))⟩
def jr255:AFun:=⟨5,1,[.tmp 2],
 (.seq
 (.reg [0] [⟨some 1,.cbx 0 6 (.tmp 0),none⟩,
  ⟨some 2,.mov (.cst (.d (.str []))),none⟩])
 (.seq
  (.reg [] [⟨some 3,.fad 3 (.tmp 1),none⟩,
   ⟨some 4,.ld false 1 (.tmp 3),none⟩,
   ⟨some 2,.mov (.tmp 4),none⟩])
  .ret))⟩
theorem c252 (g:Gr):CallDet Tryz.prog 252 [.d (.agg [.str g.fr,.str g.to,.str g.ri,.str g.ob,.int .i64 g.a,.int .i64 g.b])] [.str g.fr]:=by
 refine call_of_vc (x:=jr252) (by kernel_rfl) rfl ?_
 exact rfl
theorem c253 (g:Gr):CallDet Tryz.prog 253 [.d (.agg [.str g.fr,.str g.to,.str g.ri,.str g.ob,.int .i64 g.a,.int .i64 g.b])] [.str g.to]:=by
 refine call_of_vc (x:=jr253) (by kernel_rfl) rfl ?_
 exact rfl
theorem c254 (g:Gr):CallDet Tryz.prog 254 [.d (.agg [.str g.fr,.str g.to,.str g.ri,.str g.ob,.int .i64 g.a,.int .i64 g.b])] [.str g.ri]:=by
 refine call_of_vc (x:=jr254) (by kernel_rfl) rfl ?_
 exact rfl
theorem c255 (g:Gr):CallDet Tryz.prog 255 [.d (.agg [.str g.fr,.str g.to,.str g.ri,.str g.ob,.int .i64 g.a,.int .i64 g.b])] [.str g.ob]:=by
 refine call_of_vc (x:=jr255) (by kernel_rfl) rfl ?_
 exact rfl
theorem lk2 (n:List UInt8) (L:List (List UInt8)):(∃ y,findM (.str n) (L.map fun n=>(Data.str n,Data.bool true))=some y∧[Data.bool (L.contains n),Data.bool (L.contains n)]=[y,.bool true])∨(findM (.str n) (L.map fun n=>(Data.str n,Data.bool true))=none∧[Data.bool (L.contains n),Data.bool (L.contains n)]=[.bool false,.bool false]):=by
 rw [findM_names2 n L]
 rcases Bool.eq_false_or_eq_true (L.contains n) with e | e
 ·rw [e]; exact .inl ⟨_,rfl,rfl⟩
 ·rw [e]; exact .inr ⟨rfl,rfl⟩
theorem c27 (l:List Ob) (G:List Gr) (hl:l.length≤1048576) (hG:G.length≤1048576):CallDet Tryz.prog 27 [.d (.agg [.slice 2 (obs l),.slice 6 (grs G)])] [.int .i64 (bookE l G)]:=by
 have hlo:=obs_len l
 have hlg:=grs_len G
 refine call_of_vc (x:=jr27) (by kernel_rfl) rfl ?_
 refine sd ?_
 refine b_lt (fun t1=>?_) (fun t1=>?_)
 ·rw [bk_1 (by omega)]
  exact rfl
 have h16:¬ (16:Int) < (l.length:Int):=by have t1:¬ (16:Int) < ((obs l).length:Int):=t1; omega
 refine loop_st (fun k:Nat=>⟨[(1,.ptr 0 0),(3,.mp 1),(20,.d (.slice 2 (obs l))),(21,.d (.int .i64 (((obs l).length:Nat):Int))),(22,.d (.int .i64 ((k:Nat))))],[.cbox [.slice 2 (obs l),.slice 6 (grs G)],.mapo ((nms (l.take k)).map fun n=>(Data.str n,Data.bool true)),.none,.none,.none,.none,.none]⟩) (fun k=>k≤l.length∧obE l []=obE (l.drop k) (nms (l.take k))) (fun k=>l.length - k) 0 rfl ⟨Nat.zero_le _,rfl⟩ ?_
 rintro k ⟨hk,hi⟩
 have hk:k≤l.length:=hk
 dsimp only
 by_cases hkn:k < l.length
 ·refine Exists.elim (get_lt l hkn) fun x hx=>?_
  have hx1:=obs_at hx
  rw [drop_at hx,obE] at hi
  have hky:=keys_names2 (nms (l.take k))
  have hlk:=lk2 x.1 (nms (l.take k))
  have c99_:CallDet Tryz.prog 99 [.d (.slice 1 [.int .i64 (bif !(isNm x.1) then 8 else 0),.int .i64 (bif !(isNm x.2) then 8 else 0),.int .i64 (bif (nms (l.take k)).contains x.1 then 9 else 0)])] [.int .i64 (obX x (nms (l.take k)))]:=c99 [nmE x.1,nmE x.2,bif (nms (l.take k)).contains x.1 then 9 else 0] (by simp)
  have hpm:obX x (nms (l.take k))=0→putM (.str x.1) (.bool true) ((nms (l.take k)).map fun n=>(Data.str n,Data.bool true))=(nms (l.take (k+1))).map fun n=>(Data.str n,Data.bool true):=fun e=>by
   have h4:=firstOf_zero e (bif (nms (l.take k)).contains x.1 then 9 else 0) (by simp)
   have hnew:(nms (l.take k)).contains x.1=false:=by
    rcases Bool.eq_false_or_eq_true ((nms (l.take k)).contains x.1) with e | e
    ·rw [e] at h4; cases h4
    ·exact e
   rw [putM_names2 _ _ hnew,nms_snoc hx]
  refine sd ?_
  refine b_lt (fun t1=>?_) (fun t1=>?_)
  rotate_left
  ·exfalso; omega
  refine ix_at hx1 (Int.natCast_nonneg _) ?_
  repeat refine sd ?_
  refine ca (c116 x.1) ?_
  refine ca (c116 x.2) ?_
  refine Exists.intro [Data.bool ((nms (l.take k)).contains x.1),Data.bool ((nms (l.take k)).contains x.1)] (And.intro ⟨rfl,hky,hlk⟩ ?_)
  refine ca (c103 _ _) ?_
  repeat refine sd ?_
  refine ca c99_ ?_
  repeat refine sd ?_
  refine b_ne (fun h0=>?_) (fun h0=>?_)
  ·have he:obE l []=obX x (nms (l.take k)):=by rw [hi,bne_iff_ne.2 h0]; rfl
   rw [bk_2 h16 (by rw [he]; exact h0),he]
   exact rfl
  ·have h0:obX x (nms (l.take k))=0:=h0
   rw [h0] at hi
   have hi:obE l []=obE (l.drop (k+1)) (nms (l.take (k+1))):=by rw [nms_snoc hx]; exact hi
   have fin:∃ a':Nat,((a'≤l.length∧obE l []=obE (l.drop a') (nms (l.take a')))∧l.length - a' < l.length - k)∧(⟨[(1,.ptr 0 0),(3,.mp 1),(20,.d (.slice 2 (obs l))),(21,.d (.int .i64 (((obs l).length:Nat):Int))),(22,.d (.int .i64 (((k:Int)+1))))],[.cbox [.slice 2 (obs l),.slice 6 (grs G)],.mapo (putM (.str x.1) (.bool true) ((nms (l.take k)).map fun n=>(Data.str n,Data.bool true))),.none,.none,.none,.none,.none]⟩:St)=⟨[(1,.ptr 0 0),(3,.mp 1),(20,.d (.slice 2 (obs l))),(21,.d (.int .i64 (((obs l).length:Nat):Int))),(22,.d (.int .i64 ((a':Nat))))],[.cbox [.slice 2 (obs l),.slice 6 (grs G)],.mapo ((nms (l.take a')).map fun n=>(Data.str n,Data.bool true)),.none,.none,.none,.none,.none]⟩:=⟨k+1,⟨⟨by omega,hi⟩,by omega⟩,by rw [hpm h0]; rfl⟩
   refine And.intro (And.intro rfl hky) ?_
   refine ar_add (And.intro (by omega) (by omega)) ?_
   exact fin
 have e:k=l.length:=by omega
 subst e
 rw [List.drop_eq_nil_of_le (Nat.le_refl _)] at hi
 have hi:obE l []=0:=hi
 rw [List.take_length]
 by_cases h32:(32:Int) < (G.length:Int)
 ·rw [bk_3 h16 hi h32]
  clear hi
  refine sd ?_
  refine b_lt (fun t2=>?_) (fun t2=>?_)
  (exfalso; omega)
  refine sd ?_
  refine b_lt (fun t3=>?_) (fun t3=>?_)
  exact rfl
  (exfalso; omega)
 rw [bk_4 h16 hi h32]
 clear hi
 refine sd ?_
 refine b_lt (fun t2=>?_) (fun t2=>?_)
 (exfalso; omega)
 refine sd ?_
 refine b_lt (fun t3=>?_) (fun t3=>?_)
 (exfalso; omega)
 rotate_left
 refine loop_st (fun k:Nat=>⟨[(3,.mp 1),(51,.d (.slice 6 (grs G))),(52,.d (.int .i64 (((grs G).length:Nat):Int))),(53,.d (.int .i64 ((k:Nat))))],[.none,.mapo ((nms l).map fun n=>(Data.str n,Data.bool true)),.none,.none,.none,.none,.none]⟩) (fun k=>k≤G.length∧grE l G=grE l (G.drop k)) (fun k=>G.length - k) 0 rfl ⟨Nat.zero_le _,rfl⟩ ?_
 rintro k ⟨hk2,hi⟩
 have hk2:k≤G.length:=hk2
 dsimp only
 by_cases hkn:k < G.length
 ·refine Exists.elim (get_lt G hkn) fun x hx=>?_
  have hx1:=grs_at hx
  rw [drop_at hx,grE] at hi
  have hky:=keys_names2 (nms l)
  have hlk:=lk2 x.ob (nms l)
  have bad:∀ e:Int,grX l x=e→e≠0→grE l G=e:=fun e h1 h2=>by rw [hi,h1,bne_iff_ne.2 h2]; rfl
  have good:grX l x=0→grE l G=grE l (G.drop (k+1)):=fun h=>by rw [hi,h]; rfl
  clear hi
  refine sd ?_
  refine b_lt (fun t1=>?_) (fun t1=>?_)
  rotate_left
  ·exfalso; omega
  refine ix_at hx1 (Int.natCast_nonneg _) ?_
  repeat refine sd ?_
  refine loop_st (fun j:Nat=>⟨[(3,.mp 1),(8,.ptr 4 0),(51,.d (.slice 6 (grs G))),(52,.d (.int .i64 (((grs G).length:Nat):Int))),(53,.d (.int .i64 (k:Nat))),(57,.d (.agg partsD)),(58,.d (.int .i64 ((j:Nat))))],[.none,.mapo ((nms l).map fun n=>(Data.str n,Data.bool true)),.none,.none,.box [.d (.str x.fr),.d (.str x.to),.d (.str x.ri),.d (.str x.ob),.d (.int .i64 x.a),.d (.int .i64 x.b)],.none,.none]⟩) (fun j=>j≤4∧∀ i,i < j→nmE (([x.fr,x.to,x.ri,x.ob]:List (List UInt8))[i]?.getD [])=0) (fun j=>4 - j) 0 rfl ⟨Nat.zero_le _,fun i h=>by omega⟩ ?_
  rintro j ⟨hj,hz⟩
  have hj:j≤4:=hj
  dsimp only
  by_cases hj4:j < 4
  ·rcases (show j=0∨j=1∨j=2∨j=3 by omega) with rfl | rfl | rfl | rfl
   ·skip
    by_cases hnm:nmE x.fr=0
    ·have fin : ∃ a' : Nat, ((a' ≤ 4 ∧ ∀ i, i < a' → nmE (([x.fr, x.to, x.ri, x.ob] : List (List UInt8))[i]?.getD []) = 0) ∧ 4 - a' < 4 - 0) ∧ (⟨[(3, .mp 1), (8, .ptr 4 0), (51, .d (.slice 6 (grs G))), (52, .d (.int .i64 (((grs G).length : Nat) : Int))), (53, .d (.int .i64 (k : Nat))), (57, .d (.agg partsD)), (58, .d (.int .i64 (((0 : Nat) : Int) + 1)))], [.none, .mapo ((nms l).map fun n => (Data.str n, Data.bool true)), .none, .none, .box [.d (.str x.fr), .d (.str x.to), .d (.str x.ri), .d (.str x.ob), .d (.int .i64 x.a), .d (.int .i64 x.b)], .none, .none]⟩ : St) = ⟨[(3, .mp 1), (8, .ptr 4 0), (51, .d (.slice 6 (grs G))), (52, .d (.int .i64 (((grs G).length : Nat) : Int))), (53, .d (.int .i64 (k : Nat))), (57, .d (.agg partsD)), (58, .d (.int .i64 ((a' : Nat))))], [.none, .mapo ((nms l).map fun n => (Data.str n, Data.bool true)), .none, .none, .box [.d (.str x.fr), .d (.str x.to), .d (.str x.ri), .d (.str x.ob), .d (.int .i64 x.a), .d (.int .i64 x.b)], .none, .none]⟩ := ⟨1, ⟨⟨by omega, fun i h => by
      by_cases e:i=0
      ·subst e; exact hnm
      ·exact hz i (by omega)⟩,by omega⟩,rfl⟩
     have c116_:CallDet Tryz.prog 116 [.d (.str x.fr)] [.int .i64 0]:=by rw [← hnm]; exact c116 x.fr
     clear hz bad good
     refine sd ?_
     refine an ?_ ?_
     refine an ?_ ?_
     (show (0:Int)≤(↑(0:Nat):Int); omega)
     (show (↑(0:Nat):Int) < (↑(4:Nat):Int); omega)
     refine ca (c252 x) ?_
     refine ca c116_ ?_
     refine sd ?_
     refine ar_add ?_ ?_
     refine an ?_ ?_
     (show (-9223372036854775808:Int)≤(↑(0:Nat):Int)+(1:Int); omega)
     (show (↑(0:Nat):Int)+(1:Int)≤(9223372036854775807:Int); omega)
     rotate_left
     all_goals exact fin
    ·have he:=bad (nmE x.fr) (by unfold grX; exact fo_nz hnm) hnm
     have c116_:CallDet Tryz.prog 116 [.d (.str x.fr)] [.int .i64 (nmE x.fr)]:=c116 x.fr
     rw [he]
     clear hz bad good he
     generalize nmE x.fr=E at *
     refine sd ?_
     refine an ?_ ?_
     refine an ?_ ?_
     (show (0:Int)≤(↑(0:Nat):Int); omega)
     (show (↑(0:Nat):Int) < (↑(4:Nat):Int); omega)
     refine ca (c252 x) ?_
     refine ca c116_ ?_
     refine sd ?_
     refine b_ne (fun t4=>?_) (fun t4=>?_)
     exact rfl
     (exfalso; omega)
   ·have z0:nmE x.fr=0:=hz 0 (by omega)
    by_cases hnm:nmE x.to=0
    ·have fin : ∃ a' : Nat, ((a' ≤ 4 ∧ ∀ i, i < a' → nmE (([x.fr, x.to, x.ri, x.ob] : List (List UInt8))[i]?.getD []) = 0) ∧ 4 - a' < 4 - 1) ∧ (⟨[(3, .mp 1), (8, .ptr 4 0), (51, .d (.slice 6 (grs G))), (52, .d (.int .i64 (((grs G).length : Nat) : Int))), (53, .d (.int .i64 (k : Nat))), (57, .d (.agg partsD)), (58, .d (.int .i64 (((1 : Nat) : Int) + 1)))], [.none, .mapo ((nms l).map fun n => (Data.str n, Data.bool true)), .none, .none, .box [.d (.str x.fr), .d (.str x.to), .d (.str x.ri), .d (.str x.ob), .d (.int .i64 x.a), .d (.int .i64 x.b)], .none, .none]⟩ : St) = ⟨[(3, .mp 1), (8, .ptr 4 0), (51, .d (.slice 6 (grs G))), (52, .d (.int .i64 (((grs G).length : Nat) : Int))), (53, .d (.int .i64 (k : Nat))), (57, .d (.agg partsD)), (58, .d (.int .i64 ((a' : Nat))))], [.none, .mapo ((nms l).map fun n => (Data.str n, Data.bool true)), .none, .none, .box [.d (.str x.fr), .d (.str x.to), .d (.str x.ri), .d (.str x.ob), .d (.int .i64 x.a), .d (.int .i64 x.b)], .none, .none]⟩ := ⟨2, ⟨⟨by omega, fun i h => by
      by_cases e:i=1
      ·subst e; exact hnm
      ·exact hz i (by omega)⟩,by omega⟩,rfl⟩
     have c116_:CallDet Tryz.prog 116 [.d (.str x.to)] [.int .i64 0]:=by rw [← hnm]; exact c116 x.to
     clear hz bad good
     refine sd ?_
     refine an ?_ ?_
     refine an ?_ ?_
     (show (0:Int)≤(↑(1:Nat):Int); omega)
     (show (↑(1:Nat):Int) < (↑(4:Nat):Int); omega)
     refine ca (c253 x) ?_
     refine ca c116_ ?_
     refine sd ?_
     refine ar_add ?_ ?_
     refine an ?_ ?_
     (show (-9223372036854775808:Int)≤(↑(1:Nat):Int)+(1:Int); omega)
     (show (↑(1:Nat):Int)+(1:Int)≤(9223372036854775807:Int); omega)
     rotate_left
     all_goals exact fin
    ·have he:=bad (nmE x.to) (by unfold grX; rw [z0]; rw [fo_z]; exact fo_nz hnm) hnm
     have c116_:CallDet Tryz.prog 116 [.d (.str x.to)] [.int .i64 (nmE x.to)]:=c116 x.to
     rw [he]
     clear hz bad good he
     generalize nmE x.to=E at *
     refine sd ?_
     refine an ?_ ?_
     refine an ?_ ?_
     (show (0:Int)≤(↑(1:Nat):Int); omega)
     (show (↑(1:Nat):Int) < (↑(4:Nat):Int); omega)
     refine ca (c253 x) ?_
     refine ca c116_ ?_
     refine sd ?_
     refine b_ne (fun t4=>?_) (fun t4=>?_)
     exact rfl
     (exfalso; omega)
   ·have z0:nmE x.fr=0:=hz 0 (by omega)
    have z1:nmE x.to=0:=hz 1 (by omega)
    by_cases hnm:nmE x.ri=0
    ·have fin : ∃ a' : Nat, ((a' ≤ 4 ∧ ∀ i, i < a' → nmE (([x.fr, x.to, x.ri, x.ob] : List (List UInt8))[i]?.getD []) = 0) ∧ 4 - a' < 4 - 2) ∧ (⟨[(3, .mp 1), (8, .ptr 4 0), (51, .d (.slice 6 (grs G))), (52, .d (.int .i64 (((grs G).length : Nat) : Int))), (53, .d (.int .i64 (k : Nat))), (57, .d (.agg partsD)), (58, .d (.int .i64 (((2 : Nat) : Int) + 1)))], [.none, .mapo ((nms l).map fun n => (Data.str n, Data.bool true)), .none, .none, .box [.d (.str x.fr), .d (.str x.to), .d (.str x.ri), .d (.str x.ob), .d (.int .i64 x.a), .d (.int .i64 x.b)], .none, .none]⟩ : St) = ⟨[(3, .mp 1), (8, .ptr 4 0), (51, .d (.slice 6 (grs G))), (52, .d (.int .i64 (((grs G).length : Nat) : Int))), (53, .d (.int .i64 (k : Nat))), (57, .d (.agg partsD)), (58, .d (.int .i64 ((a' : Nat))))], [.none, .mapo ((nms l).map fun n => (Data.str n, Data.bool true)), .none, .none, .box [.d (.str x.fr), .d (.str x.to), .d (.str x.ri), .d (.str x.ob), .d (.int .i64 x.a), .d (.int .i64 x.b)], .none, .none]⟩ := ⟨3, ⟨⟨by omega, fun i h => by
      by_cases e:i=2
      ·subst e; exact hnm
      ·exact hz i (by omega)⟩,by omega⟩,rfl⟩
     have c116_:CallDet Tryz.prog 116 [.d (.str x.ri)] [.int .i64 0]:=by rw [← hnm]; exact c116 x.ri
     clear hz bad good
     refine sd ?_
     refine an ?_ ?_
     refine an ?_ ?_
     (show (0:Int)≤(↑(2:Nat):Int); omega)
     (show (↑(2:Nat):Int) < (↑(4:Nat):Int); omega)
     refine ca (c254 x) ?_
     refine ca c116_ ?_
     refine sd ?_
     refine ar_add ?_ ?_
     refine an ?_ ?_
     (show (-9223372036854775808:Int)≤(↑(2:Nat):Int)+(1:Int); omega)
     (show (↑(2:Nat):Int)+(1:Int)≤(9223372036854775807:Int); omega)
     rotate_left
     all_goals exact fin
    ·have he:=bad (nmE x.ri) (by unfold grX; rw [z0]; rw [fo_z]; rw [z1]; rw [fo_z]; exact fo_nz hnm) hnm
     have c116_:CallDet Tryz.prog 116 [.d (.str x.ri)] [.int .i64 (nmE x.ri)]:=c116 x.ri
     rw [he]
     clear hz bad good he
     generalize nmE x.ri=E at *
     refine sd ?_
     refine an ?_ ?_
     refine an ?_ ?_
     (show (0:Int)≤(↑(2:Nat):Int); omega)
     (show (↑(2:Nat):Int) < (↑(4:Nat):Int); omega)
     refine ca (c254 x) ?_
     refine ca c116_ ?_
     refine sd ?_
     refine b_ne (fun t4=>?_) (fun t4=>?_)
     exact rfl
     (exfalso; omega)
   ·have z0:nmE x.fr=0:=hz 0 (by omega)
    have z1:nmE x.to=0:=hz 1 (by omega)
    have z2:nmE x.ri=0:=hz 2 (by omega)
    by_cases hnm:nmE x.ob=0
    ·have fin : ∃ a' : Nat, ((a' ≤ 4 ∧ ∀ i, i < a' → nmE (([x.fr, x.to, x.ri, x.ob] : List (List UInt8))[i]?.getD []) = 0) ∧ 4 - a' < 4 - 3) ∧ (⟨[(3, .mp 1), (8, .ptr 4 0), (51, .d (.slice 6 (grs G))), (52, .d (.int .i64 (((grs G).length : Nat) : Int))), (53, .d (.int .i64 (k : Nat))), (57, .d (.agg partsD)), (58, .d (.int .i64 (((3 : Nat) : Int) + 1)))], [.none, .mapo ((nms l).map fun n => (Data.str n, Data.bool true)), .none, .none, .box [.d (.str x.fr), .d (.str x.to), .d (.str x.ri), .d (.str x.ob), .d (.int .i64 x.a), .d (.int .i64 x.b)], .none, .none]⟩ : St) = ⟨[(3, .mp 1), (8, .ptr 4 0), (51, .d (.slice 6 (grs G))), (52, .d (.int .i64 (((grs G).length : Nat) : Int))), (53, .d (.int .i64 (k : Nat))), (57, .d (.agg partsD)), (58, .d (.int .i64 ((a' : Nat))))], [.none, .mapo ((nms l).map fun n => (Data.str n, Data.bool true)), .none, .none, .box [.d (.str x.fr), .d (.str x.to), .d (.str x.ri), .d (.str x.ob), .d (.int .i64 x.a), .d (.int .i64 x.b)], .none, .none]⟩ := ⟨4, ⟨⟨by omega, fun i h => by
      by_cases e:i=3
      ·subst e; exact hnm
      ·exact hz i (by omega)⟩,by omega⟩,rfl⟩
     have c116_:CallDet Tryz.prog 116 [.d (.str x.ob)] [.int .i64 0]:=by rw [← hnm]; exact c116 x.ob
     clear hz bad good
     refine sd ?_
     refine an ?_ ?_
     refine an ?_ ?_
     (show (0:Int)≤(↑(3:Nat):Int); omega)
     (show (↑(3:Nat):Int) < (↑(4:Nat):Int); omega)
     refine ca (c255 x) ?_
     refine ca c116_ ?_
     refine sd ?_
     refine ar_add ?_ ?_
     refine an ?_ ?_
     (show (-9223372036854775808:Int)≤(↑(3:Nat):Int)+(1:Int); omega)
     (show (↑(3:Nat):Int)+(1:Int)≤(9223372036854775807:Int); omega)
     rotate_left
     all_goals exact fin
    ·have he:=bad (nmE x.ob) (by unfold grX; rw [z0]; rw [fo_z]; rw [z1]; rw [fo_z]; rw [z2]; rw [fo_z]; exact fo_nz hnm) hnm
     have c116_:CallDet Tryz.prog 116 [.d (.str x.ob)] [.int .i64 (nmE x.ob)]:=c116 x.ob
     rw [he]
     clear hz bad good he
     generalize nmE x.ob=E at *
     refine sd ?_
     refine an ?_ ?_
     refine an ?_ ?_
     (show (0:Int)≤(↑(3:Nat):Int); omega)
     (show (↑(3:Nat):Int) < (↑(4:Nat):Int); omega)
     refine ca (c255 x) ?_
     refine ca c116_ ?_
     refine sd ?_
     refine b_ne (fun t4=>?_) (fun t4=>?_)
     exact rfl
     (exfalso; omega)
  have e:j=4:=by omega
  subst e
  have z0:nmE x.fr=0:=hz 0 (by omega)
  have z1:nmE x.to=0:=hz 1 (by omega)
  have z2:nmE x.ri=0:=hz 2 (by omega)
  have z3:nmE x.ob=0:=hz 3 (by omega)
  have hgx:grX l x=firstOf [bif x.fr==x.to then 24 else 0,bif !(nms l).contains x.ob then 10 else 0,spanE x.a x.b 100000]:=by unfold grX; rw [z0,z1,z2,z3]; rfl
  clear hz z0 z1 z2 z3
  have gb:∀ E:Int,grX l x=E→(E=0∧grE l G=grE l (G.drop (k+1)))∨(E≠0∧grE l G=E):=fun E h=>by
   by_cases h0:E=0
   ·exact .inl ⟨h0,good (h.trans h0)⟩
   ·exact .inr ⟨h0,bad E h h0⟩
  have fin:grE l G=grE l (G.drop (k+1))→∃ a':Nat,((a'≤G.length∧grE l G=grE l (G.drop a'))∧G.length - a' < G.length - k)∧(⟨[(3,.mp 1),(51,.d (.slice 6 (grs G))),(52,.d (.int .i64 (((grs G).length:Nat):Int))),(53,.d (.int .i64 (((k:Int)+1))))],[.none,.mapo ((nms l).map fun n=>(Data.str n,Data.bool true)),.none,.none,.none,.none,.none]⟩:St)=⟨[(3,.mp 1),(51,.d (.slice 6 (grs G))),(52,.d (.int .i64 (((grs G).length:Nat):Int))),(53,.d (.int .i64 ((a':Nat))))],[.none,.mapo ((nms l).map fun n=>(Data.str n,Data.bool true)),.none,.none,.none,.none,.none]⟩:=fun hi=>⟨k+1,⟨⟨by omega,hi⟩,by omega⟩,rfl⟩
  clear good bad
  have sa:x.a < 0∨(¬ x.a < 0∧x.b≤x.a)∨(¬ x.a < 0∧¬ x.b≤x.a):=by omega
  rcases sa with sa | ⟨sa,sb⟩ | ⟨sa,sb⟩
  ·have hs:spanE x.a x.b 100000=14:=by unfold spanE; rw [decide_eq_true sa,Bool.true_or,Bool.true_or]; rfl
   rw [hs] at hgx
   have c99_:CallDet Tryz.prog 99 [.d (.slice 1 [.int .i64 (bif x.fr==x.to then 24 else 0),.int .i64 (bif !(nms l).contains x.ob then 10 else 0),.int .i64 14])] [.int .i64 (grX l x)]:=by rw [hgx]; exact c99 [bif x.fr==x.to then 24 else 0,bif !(nms l).contains x.ob then 10 else 0,14] (by simp)
   have gq:=gb (grX l x) rfl
   clear hgx hs gb
   generalize grX l x=E at *
   refine sd ?_
   refine sd ?_
   refine b_lt (fun t4=>?_) (fun t4=>?_)
   refine sd ?_
   refine sd ?_
   refine ca (c103 _ _) ?_
   rotate_left
   (exfalso; omega)
   all_goals refine Exists.intro [Data.bool ((nms l).contains x.ob),Data.bool ((nms l).contains x.ob)] (And.intro ⟨rfl,hky,hlk⟩ ?_)
   rcases gq with ⟨rfl,gq⟩ | ⟨he,gq⟩
   ·have fin:=fin gq
    refine ca (c103 _ _) ?_
    refine ca (c103 _ _) ?_
    refine sd ?_
    refine sd ?_
    refine ca c99_ ?_
    refine sd ?_
    refine ar_add ?_ ?_
    refine an ?_ ?_
    (show (-9223372036854775808:Int)≤(↑k:Int)+(1:Int); omega)
    (show (↑k:Int)+(1:Int)≤(9223372036854775807:Int); omega)
    rotate_left
    all_goals exact fin
   ·rw [gq]
    refine ca (c103 _ _) ?_
    refine ca (c103 _ _) ?_
    refine sd ?_
    refine sd ?_
    refine ca c99_ ?_
    refine sd ?_
    refine b_ne (fun t5=>?_) (fun t5=>?_)
    exact rfl
    (exfalso; omega)
  ·have hs:spanE x.a x.b 100000=14:=by unfold spanE; rw [decide_eq_false sa,decide_eq_true sb,Bool.false_or,Bool.true_or]; rfl
   rw [hs] at hgx
   have c99_:CallDet Tryz.prog 99 [.d (.slice 1 [.int .i64 (bif x.fr==x.to then 24 else 0),.int .i64 (bif !(nms l).contains x.ob then 10 else 0),.int .i64 14])] [.int .i64 (grX l x)]:=by rw [hgx]; exact c99 [bif x.fr==x.to then 24 else 0,bif !(nms l).contains x.ob then 10 else 0,14] (by simp)
   have gq:=gb (grX l x) rfl
   clear hgx hs gb
   generalize grX l x=E at *
   refine sd ?_
   refine sd ?_
   refine b_lt (fun t4=>?_) (fun t4=>?_)
   (exfalso; omega)
   refine sd ?_
   refine b_le (fun t5=>?_) (fun t5=>?_)
   refine sd ?_
   refine ca (c103 _ _) ?_
   rotate_left
   (exfalso; omega)
   all_goals refine Exists.intro [Data.bool ((nms l).contains x.ob),Data.bool ((nms l).contains x.ob)] (And.intro ⟨rfl,hky,hlk⟩ ?_)
   rcases gq with ⟨rfl,gq⟩ | ⟨he,gq⟩
   ·have fin:=fin gq
    refine ca (c103 _ _) ?_
    refine ca (c103 _ _) ?_
    refine sd ?_
    refine sd ?_
    refine ca c99_ ?_
    refine sd ?_
    refine ar_add ?_ ?_
    refine an ?_ ?_
    (show (-9223372036854775808:Int)≤(↑k:Int)+(1:Int); omega)
    (show (↑k:Int)+(1:Int)≤(9223372036854775807:Int); omega)
    rotate_left
    all_goals exact fin
   ·rw [gq]
    refine ca (c103 _ _) ?_
    refine ca (c103 _ _) ?_
    refine sd ?_
    refine sd ?_
    refine ca c99_ ?_
    refine sd ?_
    refine b_ne (fun t6=>?_) (fun t6=>?_)
    exact rfl
    (exfalso; omega)
  ·have hs:spanE x.a x.b 100000=(bif decide ((100000:Int) < x.b) then 14 else 0):=by unfold spanE; rw [decide_eq_false sa,decide_eq_false sb,Bool.false_or,Bool.false_or]
   rw [hs] at hgx
   have c99_:CallDet Tryz.prog 99 [.d (.slice 1 [.int .i64 (bif x.fr==x.to then 24 else 0),.int .i64 (bif !(nms l).contains x.ob then 10 else 0),.int .i64 (bif decide ((100000:Int) < x.b) then 14 else 0)])] [.int .i64 (grX l x)]:=by rw [hgx]; exact c99 [bif x.fr==x.to then 24 else 0,bif !(nms l).contains x.ob then 10 else 0,(bif decide ((100000:Int) < x.b) then 14 else 0)] (by simp)
   have gq:=gb (grX l x) rfl
   clear hgx hs gb
   generalize grX l x=E at *
   refine sd ?_
   refine sd ?_
   refine b_lt (fun t4=>?_) (fun t4=>?_)
   (exfalso; omega)
   refine sd ?_
   refine b_le (fun t5=>?_) (fun t5=>?_)
   (exfalso; omega)
   refine sd ?_
   refine ca (c103 _ _) ?_
   rotate_left
   all_goals refine Exists.intro [Data.bool ((nms l).contains x.ob),Data.bool ((nms l).contains x.ob)] (And.intro ⟨rfl,hky,hlk⟩ ?_)
   rcases gq with ⟨rfl,gq⟩ | ⟨he,gq⟩
   ·have fin:=fin gq
    refine ca (c103 _ _) ?_
    refine ca (c103 _ _) ?_
    refine sd ?_
    refine sd ?_
    refine ca c99_ ?_
    refine sd ?_
    refine ar_add ?_ ?_
    refine an ?_ ?_
    (show (-9223372036854775808:Int)≤(↑k:Int)+(1:Int); omega)
    (show (↑k:Int)+(1:Int)≤(9223372036854775807:Int); omega)
    rotate_left
    all_goals exact fin
   ·rw [gq]
    refine ca (c103 _ _) ?_
    refine ca (c103 _ _) ?_
    refine sd ?_
    refine sd ?_
    refine ca c99_ ?_
    refine sd ?_
    refine b_ne (fun t6=>?_) (fun t6=>?_)
    exact rfl
    (exfalso; omega)
 have e:k=G.length:=by omega
 subst e
 rw [List.drop_eq_nil_of_le (Nat.le_refl _)] at hi
 have hi:grE l G=0:=hi
 rw [hi]
 refine sd ?_
 refine b_lt (fun t4=>?_) (fun t4=>?_)
 (exfalso; omega)
 exact rfl
end Vc
