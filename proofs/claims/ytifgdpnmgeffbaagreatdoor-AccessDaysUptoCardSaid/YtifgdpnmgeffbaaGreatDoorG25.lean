import Derived.Test.YtifgdpnmgeffbaaGreatDoorG24
set_option linter.unusedSectionVars false
set_option linter.unusedVariables false
set_option linter.unusedSimpArgs false
set_option maxRecDepth 10000
set_option maxHeartbeats 4000000
namespace Vc
open Go Go.Proofs
def jr32:AFun:=⟨47,5,[.tmp 4],
 (.seq
 (.reg [0,1] [⟨some 2,.cbx 0 2 (.tmp 0),none⟩,
  ⟨some 3,.cbx 1 4 (.tmp 1),none⟩,
  ⟨some 4,.mov (.cst (.nils 1)),none⟩])
 (.seq
  (.reg [] [⟨some 11,.ld true 2 (.tmp 2),none⟩,
   ⟨some 12,.ld true 4 (.tmp 3),none⟩,
   ⟨some 13,.call 113 [(.tmp 11),(.tmp 12)],none⟩,
   ⟨some 10,.mov (.tmp 13),none⟩,
   ⟨some 14,.ext 0 (.tmp 10),none⟩,
   ⟨some 15,.ext 1 (.tmp 10),none⟩,
   ⟨some 5,.mov (.tmp 14),none⟩,
   ⟨some 6,.mov (.tmp 15),none⟩])
  (.seq
  (.reg [2] [⟨some 16,.mov (.tmp 5),none⟩,
   ⟨some 17,.ixa 1 (.tmp 16) (.cst (.d (.int .i64 0))),none⟩,
   ⟨some 18,.ld false 1 (.tmp 17),none⟩,
   ⟨some 19,.bsl 2 9 1 1 [(.str [])] [(0,(.tmp 18))],none⟩,
   ⟨some 7,.mov (.tmp 19),none⟩])
  (.seq
   (.seq
   (.reg [] [⟨some 8,.mov (.cst (.d (.int .i64 0))),none⟩])
   (.post [7] [0,1,2,3,4]
    (.block 0
    (.asrow 4 9 1 7
     (.keep [2,5,7,8] [0,1,2]
     (.loop
      (.post [2,5,7,8] [3,4]
      (.seq
       (.seq
       (.reg [] [⟨some 20,.mov (.tmp 8),none⟩,
        ⟨some 21,.fad 1 (.tmp 2),none⟩,
        ⟨some 22,.ld false 1 (.tmp 21),none⟩,
        ⟨some 23,.len (.tmp 22),none⟩,
        ⟨some 24,.cmp .lss (.tmp 20) (.tmp 23),none⟩])
       (.cond (.tmp 24)
        .skip
        (.exit 0)))
       (.seq
       (.block 1
        (.seq
        (.reg [] [⟨some 27,.fad 1 (.tmp 2),none⟩,
         ⟨some 28,.ld false 1 (.tmp 27),none⟩,
         ⟨some 29,.mov (.tmp 8),none⟩,
         ⟨some 30,.ixa 6 (.tmp 28) (.tmp 29),none⟩,
         ⟨some 31,.fad 1 (.tmp 30),none⟩,
         ⟨some 32,.ld false 1 (.tmp 31),none⟩,
         ⟨some 9,.mov (.tmp 32),none⟩])
        (.seq
         (.reg [] [⟨some 33,.mov (.tmp 5),none⟩,
          ⟨some 34,.mov (.tmp 9),none⟩,
          ⟨some 35,.call 92 [(.tmp 33),(.tmp 34)],none⟩,
          ⟨some 36,.mov (.tmp 35),none⟩,
          ⟨some 37,.mov (.tmp 7),some (36,true)⟩,
          ⟨some 38,.mov (.tmp 9),some (36,true)⟩,
          ⟨some 39,.call 92 [(.tmp 37),(.tmp 38)],some (36,true)⟩,
          ⟨some 40,.not (.tmp 39),some (36,true)⟩,
          ⟨some 41,.pick (.tmp 36) (.tmp 40) (.cst (.d (.bool false))),none⟩])
         (.cond (.tmp 41)
         (.reg [3,4] [⟨some 42,.mov (.tmp 7),none⟩,
          ⟨some 43,.mov (.tmp 9),none⟩,
          ⟨some 44,.bsl 3 9 1 1 [(.str [])] [(0,(.tmp 43))],none⟩,
          ⟨some 45,.app 4 9 1 16 (.tmp 42) (.tmp 44),none⟩,
          ⟨some 7,.mov (.tmp 45),none⟩])
         .skip))))
       (.reg [] [⟨some 25,.mov (.tmp 8),none⟩,
        ⟨some 26,.arith .add .i64 (.tmp 25) (.cst (.d (.int .i64 1))),none⟩,
        ⟨some 8,.mov (.tmp 26),none⟩]))))))))))
   (.seq
   (.reg [] [⟨some 46,.mov (.tmp 7),none⟩,
    ⟨some 4,.mov (.tmp 46),none⟩])
   .ret)))))⟩
def jr29:AFun:=⟨73,7,[.tmp 8,.tmp 9],
 (.seq
 (.reg [0] [⟨some 4,.cbx 0 2 (.tmp 0),none⟩,
  ⟨some 8,.mov (.cst (.nils 1)),none⟩,
  ⟨some 9,.mov (.cst (.d (.int .i64 0))),none⟩])
 (.seq
  (.reg [1] [⟨some 19,.ld true 2 (.tmp 4),none⟩,
   ⟨some 20,.mov (.tmp 1),none⟩,
   ⟨some 21,.mov (.tmp 2),none⟩,
   ⟨some 22,.build [(.nils 2),(.nils 6),(.d (.str [])),(.d (.str []))] [(0,2,(.tmp 19)),(2,1,(.tmp 20)),(3,1,(.tmp 21))],none⟩,
   ⟨some 10,.alloc 1 [(.nils 2),(.nils 6),(.d (.str [])),(.d (.str []))],none⟩,
   ⟨none,.st 4 (.tmp 10) (.tmp 22),none⟩])
  (.seq
  (.seq
   (.regd [2] [⟨some 23,.ld true 2 (.tmp 4),none⟩,
    ⟨some 24,.call 27 [(.tmp 23)],none⟩,
    ⟨some 25,.ld true 4 (.tmp 10),none⟩,
    ⟨some 26,.call 117 [(.tmp 25)],none⟩,
    ⟨some 27,.mov (.tmp 3),none⟩,
    ⟨some 28,.call 101 [(.tmp 27)],none⟩,
    ⟨some 29,.bsl 2 32 1 3 [(.int .i64 0),(.int .i64 0),(.int .i64 0)] [(0,(.tmp 24)),(1,(.tmp 26)),(2,(.tmp 28))],none⟩,
    ⟨some 30,.call 99 [(.tmp 29)],none⟩,
    ⟨some 11,.mov (.tmp 30),none⟩] [(0,2),(1,2),(0,4),(1,4),(2,4),(3,4)])
   (.seq
   (.reg [] [⟨some 31,.mov (.tmp 11),none⟩,
    ⟨some 32,.cmp .neq (.tmp 31) (.cst (.d (.int .i64 0))),none⟩])
   (.cond (.tmp 32)
    (.seq
    (.reg [] [⟨some 33,.mov (.tmp 11),none⟩,
     ⟨some 8,.mov (.cst (.nils 1)),none⟩,
     ⟨some 9,.mov (.tmp 33),none⟩])
    .ret)
    .skip)))
  (.seq
   (.reg [] [⟨some 35,.fad 0 (.tmp 10),none⟩,
    ⟨some 36,.ld true 2 (.tmp 35),none⟩,
    ⟨some 37,.mov (.tmp 2),none⟩,
    ⟨some 38,.call 107 [(.tmp 36),(.tmp 37)],none⟩,
    ⟨some 34,.mov (.tmp 38),none⟩,
    ⟨some 39,.ext 0 (.tmp 34),none⟩,
    ⟨some 40,.ext 1 (.tmp 34),none⟩,
    ⟨some 12,.mov (.tmp 39),none⟩,
    ⟨some 13,.mov (.tmp 40),none⟩])
   (.seq
   (.reg [3] [⟨some 41,.mov (.tmp 12),none⟩,
    ⟨some 42,.bsl 3 9 1 1 [(.str [])] [(0,(.tmp 41))],none⟩,
    ⟨some 14,.mov (.tmp 42),none⟩])
   (.seq
    (.seq
    (.reg [] [⟨some 43,.fad 1 (.tmp 4),none⟩,
     ⟨some 44,.ld false 1 (.tmp 43),none⟩,
     ⟨some 45,.len (.tmp 44),none⟩,
     ⟨some 46,.mov (.cst (.d (.int .i64 0))),none⟩])
    (.post [14] [0,1,2,3,4,5,6]
     (.block 0
     (.asrow 6 9 1 14
      (.keep [3,10,14,44,45,46] [0,1,2,3]
      (.loop
       (.post [3,10,14,44,45,46] [4,5,6]
       (.seq
        (.reg [] [⟨some 47,.cmp .lss (.tmp 46) (.tmp 45),none⟩])
        (.seq
        (.cond (.tmp 47)
         .skip
         (.exit 0))
        (.seq
         (.block 1
         (.seq
          (.reg [4] [⟨some 48,.ixa 6 (.tmp 44) (.tmp 46),none⟩,
           ⟨some 49,.ld true 6 (.tmp 48),none⟩,
           ⟨some 16,.alloc 4 [(.d (.str [])),(.d (.str [])),(.d (.str [])),(.d (.str [])),(.d (.int .i64 0)),(.d (.int .i64 0))],none⟩,
           ⟨none,.st 6 (.tmp 16) (.tmp 49),none⟩])
          (.seq
          (.reg [] [⟨some 51,.ld true 4 (.tmp 10),none⟩,
           ⟨some 52,.fad 1 (.tmp 16),none⟩,
           ⟨some 53,.ld false 1 (.tmp 52),none⟩,
           ⟨some 54,.mov (.tmp 3),none⟩,
           ⟨some 55,.call 102 [(.tmp 51),(.tmp 53),(.tmp 54)],none⟩,
           ⟨some 50,.mov (.tmp 55),none⟩,
           ⟨some 56,.ext 0 (.tmp 50),none⟩,
           ⟨some 57,.ext 1 (.tmp 50),none⟩,
           ⟨some 17,.mov (.tmp 56),none⟩,
           ⟨some 18,.mov (.tmp 57),none⟩])
          (.seq
           (.reg [] [⟨some 58,.mov (.tmp 18),none⟩,
            ⟨some 59,.mov (.tmp 58),none⟩,
            ⟨some 60,.mov (.tmp 14),some (59,true)⟩,
            ⟨some 61,.fad 1 (.tmp 16),some (59,true)⟩,
            ⟨some 62,.ld false 1 (.tmp 61),some (59,true)⟩,
            ⟨some 63,.call 118 [(.tmp 60),(.tmp 62)],some (59,true)⟩,
            ⟨some 64,.not (.tmp 63),some (59,true)⟩,
            ⟨some 65,.pick (.tmp 59) (.tmp 64) (.cst (.d (.bool false))),none⟩])
           (.cond (.tmp 65)
           (.reg [5,6] [⟨some 66,.mov (.tmp 14),none⟩,
            ⟨some 67,.fad 1 (.tmp 16),none⟩,
            ⟨some 68,.ld false 1 (.tmp 67),none⟩,
            ⟨some 69,.bsl 5 9 1 1 [(.str [])] [(0,(.tmp 68))],none⟩,
            ⟨some 70,.app 6 9 1 16 (.tmp 66) (.tmp 69),none⟩,
            ⟨some 14,.mov (.tmp 70),none⟩])
           .skip)))))
         (.reg [] [⟨some 71,.arith .add .i64 (.tmp 46) (.cst (.d (.int .i64 1))),none⟩,
          ⟨some 46,.mov (.tmp 71),none⟩])))))))))))
    (.seq
    (.reg [] [⟨some 72,.mov (.tmp 14),none⟩,
     ⟨some 8,.mov (.tmp 72),none⟩,
     ⟨some 9,.mov (.cst (.d (.int .i64 0))),none⟩])
    .ret)))))))⟩
def jr118:AFun:=⟨9,0,[.tmp 4],
 (.seq
 (.reg [] [⟨some 4,.mov (.cst (.d (.bool false))),none⟩])
 (.seq
  (.reg [] [⟨some 5,.mov (.tmp 0),none⟩,
   ⟨some 6,.mov (.tmp 1),none⟩,
   ⟨some 7,.call 166 [(.tmp 5),(.tmp 6)],none⟩,
   ⟨some 8,.cmp .geq (.tmp 7) (.cst (.d (.int .i64 0))),none⟩,
   ⟨some 4,.mov (.tmp 8),none⟩])
  .ret))⟩
def jr166:AFun:=⟨19,0,[.tmp 4],
 (.seq
 (.reg [] [⟨some 4,.mov (.cst (.d (.int .i64 0))),none⟩])
 (.seq
  (.seq
  (.reg [] [⟨some 6,.mov (.tmp 0),none⟩,
   ⟨some 7,.len (.tmp 6),none⟩,
   ⟨some 8,.mov (.cst (.d (.int .i64 0))),none⟩])
  (.post [] []
   (.block 0
   (.keep [0,1,7,8] []
    (.loop
    (.post [0,1,7,8] []
     (.seq
     (.reg [] [⟨some 9,.cmp .lss (.tmp 8) (.tmp 7),none⟩])
     (.seq
      (.cond (.tmp 9)
      .skip
      (.exit 0))
      (.seq
      (.block 1
       (.seq
       (.reg [] [⟨some 10,.mov (.tmp 8),none⟩,
        ⟨some 5,.mov (.tmp 10),none⟩])
       (.seq
        (.reg [] [⟨some 11,.mov (.tmp 1),none⟩,
         ⟨some 12,.mov (.tmp 0),none⟩,
         ⟨some 13,.mov (.tmp 5),none⟩,
         ⟨some 14,.ixa 1 (.tmp 12) (.tmp 13),none⟩,
         ⟨some 15,.ld false 1 (.tmp 14),none⟩,
         ⟨some 16,.seq false (.tmp 11) (.tmp 15),none⟩])
        (.cond (.tmp 16)
        (.seq
         (.reg [] [⟨some 17,.mov (.tmp 5),none⟩,
          ⟨some 4,.mov (.tmp 17),none⟩])
         .ret)
        .skip))))
      (.reg [] [⟨some 18,.arith .add .i64 (.tmp 8) (.cst (.d (.int .i64 1))),none⟩,
       ⟨some 8,.mov (.tmp 18),none⟩]))))))))))
  (.seq
  (.reg [] [⟨some 4,.mov (.cst (.d (.int .i64 (-1)))),none⟩])
  .ret)))⟩
def offL (p:Nm→Bool):List Gr→List Nm→List Nm
 | [],L=>L
 | g::r,L=>bif p g.to&&!L.contains g.to then offL p r (L++[g.to]) else offL p r L
theorem c166 (c:List Nm) (n:Nm) (hc:c.length≤1048576):CallDet Tryz.prog 166 [.d (.slice 1 (strs c)),.d (.str n)] [.int .i64 (ixF (fun x=>n==x) c 0)]:=by
 have hlen:=strs_len c
 refine call_of_vc (x:=jr166) (by kernel_rfl) rfl ?_
 rotate_left
 refine loop_st (fun k:Nat=>⟨[(0,.d (.slice 1 (strs c))),(1,.d (.str n)),(7,.d (.int .i64 (((strs c).length:Nat):Int))),(8,.d (.int .i64 ((k:Nat))))],[]⟩) (fun k=>k≤c.length∧ixF (fun x=>n==x) c 0=ixF (fun x=>n==x) (c.drop k) (k:Int)) (fun k=>c.length - k) 0 rfl ⟨Nat.zero_le _,rfl⟩ ?_
 rintro k ⟨hk,hi⟩
 have hk:k≤c.length:=hk
 dsimp only
 by_cases hkn:k < c.length
 ·refine Exists.elim (get_lt c hkn) fun x hx=>?_
  have hx1:=strs_get hx
  rw [drop_at hx,ixF] at hi
  cases e:(n==x) with
  | true =>
   rw [e] at hi
   have hi:ixF (fun x=>n==x) c 0=(k:Int):=hi
   rw [hi]
   refine sd ?_
   refine b_lt (fun t1=>?_) (fun t1=>?_)
   refine ix_at hx1 ?_ ?_
   (show (0:Int)≤(↑k:Int); omega)
   refine b_t e ?_
   exact rfl
   (exfalso; omega)
  | false =>
   rw [e] at hi
   have hi:ixF (fun x=>n==x) c 0=ixF (fun x=>n==x) (c.drop (k+1)) ((k:Int)+1):=hi
   have fin:∃ a':Nat,((a'≤c.length∧ixF (fun x=>n==x) c 0=ixF (fun x=>n==x) (c.drop a') (a':Int))∧c.length - a' < c.length - k)∧(⟨[(0,.d (.slice 1 (strs c))),(1,.d (.str n)),(7,.d (.int .i64 (((strs c).length:Nat):Int))),(8,.d (.int .i64 ((k:Int)+1)))],[]⟩:St)=⟨[(0,.d (.slice 1 (strs c))),(1,.d (.str n)),(7,.d (.int .i64 (((strs c).length:Nat):Int))),(8,.d (.int .i64 (a':Nat)))],[]⟩:=⟨k+1,⟨⟨by omega,hi⟩,by omega⟩,rfl⟩
   refine sd ?_
   refine b_lt (fun t1=>?_) (fun t1=>?_)
   refine ix_at hx1 ?_ ?_
   (show (0:Int)≤(↑k:Int); omega)
   refine b_f e ?_
   refine ar_add ?_ ?_
   refine an ?_ ?_
   (show (-9223372036854775808:Int)≤(↑k:Int)+(1:Int); omega)
   (show (↑k:Int)+(1:Int)≤(9223372036854775807:Int); omega)
   rotate_left
   (exfalso; omega)
   all_goals exact fin
 ·have e:k=c.length:=by omega
  subst e
  rw [List.drop_eq_nil_of_le (Nat.le_refl _)] at hi
  have hi:ixF (fun x=>n==x) c 0=-1:=hi
  rw [hi]
  refine sd ?_
  refine b_lt (fun t1=>?_) (fun t1=>?_)
  (exfalso; omega)
  exact rfl
theorem c118 (c:List Nm) (n:Nm) (hc:c.length≤1048576):CallDet Tryz.prog 118 [.d (.slice 1 (strs c)),.d (.str n)] [.bool (c.contains n)]:=by
 have c166_:=c166 c n hc
 have e:=ixF_any (fun x=>n==x) c 0 (Int.le_refl _)
 have e2:c.contains n=c.any (fun x=>n==x):=by rw [List.contains_eq_any_beq]
 rw [e2,← e]
 refine call_of_vc (x:=jr118) (by kernel_rfl) rfl ?_
 refine ca c166_ ?_
 refine sd ?_
 exact rfl
theorem hoG_0 {ri ob:Nm} {day:Int} {n:Nm} {d:Int}:∀ {r:List Gr} {L:List Nm} {K:List Int},L.length≤(hoG ri ob day n d r L K).1.length
 | [],_,_=>Nat.le_refl _
 | g::r,L,K=>by
  rw [hoG]
  cases (holdB ri ob day g&&(g.fr==n&&!L.contains g.to)) with
  | false=>exact hoG_0
  | true =>
   refine Nat.le_trans ?_ hoG_0
   rw [List.length_append]; exact Nat.le_add_right _ _
theorem hoL_0 {ri ob:Nm} {day:Int} {G:List Gr}:∀ {f i:Nat} {L:List Nm} {K:List Int},L.length≤(hoL ri ob day G f i L K).1.length
 | 0,_,_,_=>Nat.le_refl _
 | f+1,i,L,K=>by
  rw [hoL]
  split
  ·refine Nat.le_trans ?_ hoL_0
   exact hoG_0
  ·exact Nat.le_refl _
theorem ho_0 (l:List Ob) (G:List Gr) (ri ob:Nm) (day:Int):0 < (hoL ri ob day G (G.length+2) 0 [(ownO l ob).getD []] [0]).1.length:=Nat.lt_of_lt_of_le (by show 0 < 1; decide) hoL_0
theorem c32 (l:List Ob) (G:List Gr) (of ri ob:Nm) (day:Int) (hl:l.length≤1048576) (hG:G.length≤32):CallDet Tryz.prog 32 [.d (.agg [.slice 2 (obs l),.slice 6 (grs G)]),.d (.agg [.str of,.str ri,.str ob,.int .i64 day])] [.slice 1 (strs (offL (fun n=>(hoL ri ob day G (G.length+2) 0 [(ownO l ob).getD []] [0]).1.contains n) G [(hoL ri ob day G (G.length+2) 0 [(ownO l ob).getD []] [0]).1[0]?.getD []]))]:=by
 have c113_:=c113 l G of ri ob day hl hG
 have hk:=ho_HK l G ri ob day hG
 have h0:=ho_0 l G ri ob day
 generalize (hoL ri ob day G (G.length+2) 0 [(ownO l ob).getD []] [0])=HK at c113_ hk h0
 obtain ⟨H,K⟩:=HK
 have hkc:cntR H G+H.length≤40:=hk.hc
 have h0:0 < H.length:=h0
 clear hk
 dsimp only at c113_
 dsimp only
 refine Exists.elim (get_lt H h0) fun T hT=>?_
 have hT1:=strs_get hT
 rw [hT]
 show CallDet _ _ _ [.slice 1 (strs (offL (fun n=>H.contains n) G [T]))]
 generalize hX:offL (fun n=>H.contains n) G [T]=X
 have hsH:=strs_len H
 refine call_of_vc (x:=jr32) (by kernel_rfl) rfl ?_
 refine ca c113_ ?_
 refine ix_at hT1 ?_ ?_
 (show (0:Int)≤(0:Int); omega)
 refine sd ?_
 rotate_left
 refine loop_st (fun p:Nat × List Nm=>⟨[(2,.ptr 0 0),(5,.d (.slice 1 (strs H))),(7,.sl 2 (strs (p.2)).length),(8,.d (.int .i64 ((p.1:Nat))))],[.cbox [.slice 2 (obs l),.slice 6 (grs G)],.none,.row 9 1 (strs (p.2)) false,.none,.none]⟩) (fun p=>(p.1≤G.length∧p.2.length≤1+p.1)∧offL (fun n=>H.contains n) (G.drop p.1) p.2=X) (fun p=>G.length - p.1) (0,[T]) rfl ⟨⟨Nat.zero_le _,Nat.le_refl _⟩,hX⟩ ?_
 clear hX
 rintro ⟨k,L⟩ ⟨⟨hk0,hL0⟩,hi0⟩
 have hk:k≤G.length:=hk0
 have hL:L.length≤1+k:=hL0
 have hi:offL (fun n=>H.contains n) (G.drop k) L=X:=hi0
 clear hk0 hL0 hi0
 dsimp only
 have hsl:=strs_len L
 have hlg:=grs_len G
 by_cases hkn:k < G.length
 ·refine Exists.elim (get_lt G hkn) fun g hx=>?_
  have hx1:=grs_at hx
  rw [drop_at hx,offL] at hi
  have fin:offL (fun n=>H.contains n) (G.drop (k+1)) L=X→∃ a':Nat × List Nm,(((a'.1≤G.length∧a'.2.length≤1+a'.1)∧offL (fun n=>H.contains n) (G.drop a'.1) a'.2=X)∧G.length - a'.1 < G.length - k)∧(⟨[(2,.ptr 0 0),(5,.d (.slice 1 (strs H))),(7,.sl 2 (strs (L)).length),(8,.d (.int .i64 ((k:Int)+1)))],[.cbox [.slice 2 (obs l),.slice 6 (grs G)],.none,.row 9 1 (strs (L)) false,.none,.none]⟩:St)=⟨[(2,.ptr 0 0),(5,.d (.slice 1 (strs H))),(7,.sl 2 (strs (a'.2)).length),(8,.d (.int .i64 ((a'.1:Nat))))],[.cbox [.slice 2 (obs l),.slice 6 (grs G)],.none,.row 9 1 (strs (a'.2)) false,.none,.none]⟩:=fun h=>⟨(k+1,L),⟨⟨⟨by show k+1≤G.length; omega,by show L.length≤1+(k+1); omega⟩,h⟩,by show G.length - (k+1) < G.length - k; omega⟩,rfl⟩
  have fin2:offL (fun n=>H.contains n) (G.drop (k+1)) (L++[g.to])=X→∃ a':Nat × List Nm,(((a'.1≤G.length∧a'.2.length≤1+a'.1)∧offL (fun n=>H.contains n) (G.drop a'.1) a'.2=X)∧G.length - a'.1 < G.length - k)∧(⟨[(2,.ptr 0 0),(5,.d (.slice 1 (strs H))),(7,.sl 2 (strs (L++[g.to])).length),(8,.d (.int .i64 ((k:Int)+1)))],[.cbox [.slice 2 (obs l),.slice 6 (grs G)],.none,.row 9 1 (strs (L++[g.to])) false,.none,.none]⟩:St)=⟨[(2,.ptr 0 0),(5,.d (.slice 1 (strs H))),(7,.sl 2 (strs (a'.2)).length),(8,.d (.int .i64 ((a'.1:Nat))))],[.cbox [.slice 2 (obs l),.slice 6 (grs G)],.none,.row 9 1 (strs (a'.2)) false,.none,.none]⟩:=fun h=>⟨(k+1,L++[g.to]),⟨⟨⟨by show k+1≤G.length; omega,by show (L++[g.to]).length≤1+(k+1); rw [List.length_append]; show L.length+1≤_; omega⟩,h⟩,by show G.length - (k+1) < G.length - k; omega⟩,rfl⟩
  have c92_a:=c92 H g.to (by omega)
  have c92_b:=c92 L g.to (by omega)
  cases h1:H.contains g.to with
  | false =>
   rw [h1] at hi c92_a
   have fin:=fin hi
   clear fin2
   refine sd ?_
   refine b_lt (fun t1=>?_) (fun t1=>?_)
   refine ix_at hx1 ?_ ?_
   (show (0:Int)≤(↑k:Int); omega)
   refine ca c92_a ?_
   refine sd ?_
   refine ar_add ?_ ?_
   refine an ?_ ?_
   (show (-9223372036854775808:Int)≤(↑k:Int)+(1:Int); omega)
   (show (↑k:Int)+(1:Int)≤(9223372036854775807:Int); omega)
   rotate_left
   (exfalso; omega)
   all_goals exact fin
  | true =>
   rw [h1] at hi c92_a
   cases h2:L.contains g.to with
   | true =>
    rw [h2] at hi c92_b
    have fin:=fin hi
    clear fin2
    refine sd ?_
    refine b_lt (fun t1=>?_) (fun t1=>?_)
    refine ix_at hx1 ?_ ?_
    (show (0:Int)≤(↑k:Int); omega)
    refine ca c92_a ?_
    refine sd ?_
    refine ca c92_b ?_
    refine ar_add ?_ ?_
    refine an ?_ ?_
    (show (-9223372036854775808:Int)≤(↑k:Int)+(1:Int); omega)
    (show (↑k:Int)+(1:Int)≤(9223372036854775807:Int); omega)
    rotate_left
    (exfalso; omega)
    all_goals exact fin
   | false =>
    rw [h2] at hi c92_b
    have fin:=fin2 hi
    clear fin2
    rw [strs_snoc] at fin
    refine sd ?_
    refine b_lt (fun t1=>?_) (fun t1=>?_)
    refine ix_at hx1 ?_ ?_
    (show (0:Int)≤(↑k:Int); omega)
    refine ca c92_a ?_
    refine sd ?_
    refine ca c92_b ?_
    refine sd ?_
    refine sd ?_
    refine sd ?_
    refine an ?_ ?_
    refine an ?_ ?_
    exact rfl
    refine an ?_ ?_
    exact rfl
    refine an ?_ ?_
    exact rfl
    refine an ?_ ?_
    (show (List.length (strs L)+(1:Nat)) * (16:Nat)≤(2:Nat) ^ (47:Nat); omega)
    (show List.length (strs L)+(1:Nat)≤(2:Nat) ^ (47:Nat); omega)
    refine ar_add ?_ ?_
    refine an ?_ ?_
    (show (-9223372036854775808:Int)≤(↑k:Int)+(1:Int); omega)
    (show (↑k:Int)+(1:Int)≤(9223372036854775807:Int); omega)
    rotate_left
    (exfalso; omega)
    all_goals exact fin
 ·have e:k=G.length:=by omega
  subst e
  rw [List.drop_eq_nil_of_le (Nat.le_refl _)] at hi
  have hi:L=X:=hi
  subst hi
  refine sd ?_
  refine b_lt (fun t1=>?_) (fun t1=>?_)
  (exfalso; omega)
  refine sd ?_
  exact rfl
end Vc
