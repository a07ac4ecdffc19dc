import Derived.Test.YtifgdpnmgeffbaaGreatDoorG11
set_option linter.unusedSectionVars false
set_option linter.unusedVariables false
set_option linter.unusedSimpArgs false
set_option maxRecDepth 10000
set_option maxHeartbeats 4000000
namespace Vc
open Go Go.Proofs
def nmE (x:List UInt8):Int:=bif !(isNm x) then 8 else 0
def askE (l:List Ob) (ri ob:List UInt8):Int:=firstOf [nmE ri,nmE ob,bif !(ownO l ob).isSome then 10 else 0]
def shortB (l:List Ob) (G:List Gr):Bool:=(l.all fun x=>shortW [x.1,x.2])&&((G.all fun g=>shortW [g.fr,g.to,g.ri,g.ob])&&((decide ((l.length:Int)≤6)||((l.length:Int)==17))&&(decide ((G.length:Int)≤10)||((G.length:Int)==33))))
def jr117:AFun:=⟨24,2,[.tmp 2],
 (.seq
 (.reg [0] [⟨some 1,.cbx 0 4 (.tmp 0),none⟩,
  ⟨some 2,.mov (.cst (.d (.int .i64 0))),none⟩])
 (.seq
  (.reg [] [⟨some 6,.fad 0 (.tmp 1),none⟩,
   ⟨some 7,.ld true 2 (.tmp 6),none⟩,
   ⟨some 8,.fad 3 (.tmp 1),none⟩,
   ⟨some 9,.ld false 1 (.tmp 8),none⟩,
   ⟨some 10,.call 107 [(.tmp 7),(.tmp 9)],none⟩,
   ⟨some 5,.mov (.tmp 10),none⟩,
   ⟨some 11,.ext 0 (.tmp 5),none⟩,
   ⟨some 12,.ext 1 (.tmp 5),none⟩,
   ⟨some 3,.mov (.tmp 11),none⟩,
   ⟨some 4,.mov (.tmp 12),none⟩])
  (.seq
  (.regd [1] [⟨some 13,.fad 2 (.tmp 1),none⟩,
   ⟨some 14,.ld false 1 (.tmp 13),none⟩,
   ⟨some 15,.call 116 [(.tmp 14)],none⟩,
   ⟨some 16,.fad 3 (.tmp 1),none⟩,
   ⟨some 17,.ld false 1 (.tmp 16),none⟩,
   ⟨some 18,.call 116 [(.tmp 17)],none⟩,
   ⟨some 19,.mov (.tmp 4),none⟩,
   ⟨some 20,.not (.tmp 19),none⟩,
   ⟨some 21,.call 103 [(.tmp 20),(.cst (.d (.int .i64 10)))],none⟩,
   ⟨some 22,.bsl 1 32 1 3 [(.int .i64 0),(.int .i64 0),(.int .i64 0)] [(0,(.tmp 15)),(1,(.tmp 18)),(2,(.tmp 21))],none⟩,
   ⟨some 23,.call 99 [(.tmp 22)],none⟩,
   ⟨some 2,.mov (.tmp 23),none⟩] [(0,3),(1,3),(2,3),(0,4),(1,4),(2,4),(0,6),(1,6),(2,6),(3,6),(4,6),(5,6),(0,7),(1,7),(2,7),(3,7),(4,7),(5,7)])
  .ret)))⟩
def jr31:AFun:=⟨25,2,[.tmp 6],
 (.seq
 (.reg [0] [⟨some 3,.cbx 0 2 (.tmp 0),none⟩,
  ⟨some 6,.mov (.cst (.d (.int .i64 0))),none⟩])
 (.seq
  (.reg [] [⟨some 10,.fad 0 (.tmp 3),none⟩,
   ⟨some 11,.ld false 1 (.tmp 10),none⟩,
   ⟨some 12,.mov (.tmp 2),none⟩,
   ⟨some 13,.call 109 [(.tmp 11),(.tmp 12)],none⟩,
   ⟨some 9,.mov (.tmp 13),none⟩,
   ⟨some 14,.ext 0 (.tmp 9),none⟩,
   ⟨some 15,.ext 1 (.tmp 9),none⟩,
   ⟨some 7,.mov (.tmp 14),none⟩,
   ⟨some 8,.mov (.tmp 15),none⟩])
  (.seq
  (.reg [1] [⟨some 16,.mov (.tmp 1),none⟩,
   ⟨some 17,.call 111 [(.tmp 16)],none⟩,
   ⟨some 18,.mov (.tmp 2),none⟩,
   ⟨some 19,.call 111 [(.tmp 18)],none⟩,
   ⟨some 20,.mov (.tmp 8),none⟩,
   ⟨some 21,.not (.tmp 20),none⟩,
   ⟨some 22,.call 22 [(.tmp 21),(.cst (.d (.int .i64 10)))],none⟩,
   ⟨some 23,.bsl 1 3 1 3 [(.int .i64 0),(.int .i64 0),(.int .i64 0)] [(0,(.tmp 17)),(1,(.tmp 19)),(2,(.tmp 22))],none⟩,
   ⟨some 24,.call 110 [(.tmp 23)],none⟩,
   ⟨some 6,.mov (.tmp 24),none⟩])
  .ret)))⟩
def jr20:AFun:=⟨16,3,[.tmp 4],
 (.seq
 (.reg [0,1] [⟨some 2,.cbx 0 2 (.tmp 0),none⟩,
  ⟨some 3,.cbx 1 4 (.tmp 1),none⟩,
  ⟨some 4,.mov (.cst (.d (.int .i64 0))),none⟩])
 (.seq
  (.regd [2] [⟨some 5,.fad 0 (.tmp 3),none⟩,
   ⟨some 6,.ld false 1 (.tmp 5),none⟩,
   ⟨some 7,.call 111 [(.tmp 6)],none⟩,
   ⟨some 8,.ld true 2 (.tmp 2),none⟩,
   ⟨some 9,.fad 1 (.tmp 3),none⟩,
   ⟨some 10,.ld false 1 (.tmp 9),none⟩,
   ⟨some 11,.fad 2 (.tmp 3),none⟩,
   ⟨some 12,.ld false 1 (.tmp 11),none⟩,
   ⟨some 13,.call 31 [(.tmp 8),(.tmp 10),(.tmp 12)],none⟩,
   ⟨some 14,.bsl 2 3 1 2 [(.int .i64 0),(.int .i64 0)] [(0,(.tmp 7)),(1,(.tmp 13))],none⟩,
   ⟨some 15,.call 110 [(.tmp 14)],none⟩,
   ⟨some 4,.mov (.tmp 15),none⟩] [(0,3),(1,3),(2,3),(0,4),(1,4),(2,4),(3,4),(0,5),(1,5),(2,5),(3,5),(0,6),(1,6),(2,6),(3,6),(4,6),(5,6),(0,7),(1,7),(2,7),(3,7),(4,7),(5,7)])
  .ret))⟩
def jr12:AFun:=⟨11,2,[.tmp 2],
 (.seq
 (.reg [0] [⟨some 1,.cbx 0 4 (.tmp 0),none⟩,
  ⟨some 2,.mov (.cst (.d (.bool false))),none⟩])
 (.seq
  (.reg [1] [⟨some 3,.fad 0 (.tmp 1),none⟩,
   ⟨some 4,.ld false 1 (.tmp 3),none⟩,
   ⟨some 5,.fad 1 (.tmp 1),none⟩,
   ⟨some 6,.ld false 1 (.tmp 5),none⟩,
   ⟨some 7,.fad 2 (.tmp 1),none⟩,
   ⟨some 8,.ld false 1 (.tmp 7),none⟩,
   ⟨some 9,.bsl 1 9 1 3 [(.str []),(.str []),(.str [])] [(0,(.tmp 4)),(1,(.tmp 6)),(2,(.tmp 8))],none⟩,
   ⟨some 10,.call 95 [(.tmp 9)],none⟩,
   ⟨some 2,.mov (.tmp 10),none⟩])
  .ret))⟩
def jr11:AFun:=⟨73,4,[.tmp 2],
 (.seq
 (.reg [0] [⟨some 1,.cbx 0 2 (.tmp 0),none⟩,
  ⟨some 2,.mov (.cst (.d (.bool false))),none⟩])
 (.seq
  (.seq
  (.reg [] [⟨some 3,.mov (.cst (.d (.int .i64 0))),none⟩])
  (.post [1] [0,1]
   (.block 0
   (.keep [1,3] [0]
    (.loop
    (.post [1,3] [1]
     (.seq
     (.seq
      (.reg [] [⟨some 6,.mov (.tmp 3),none⟩,
       ⟨some 7,.fad 0 (.tmp 1),none⟩,
       ⟨some 8,.ld false 1 (.tmp 7),none⟩,
       ⟨some 9,.len (.tmp 8),none⟩,
       ⟨some 10,.cmp .lss (.tmp 6) (.tmp 9),none⟩])
      (.cond (.tmp 10)
      .skip
      (.exit 0)))
     (.seq
      (.block 1
      (.seq
       (.regd [1] [⟨some 13,.fad 0 (.tmp 1),none⟩,
        ⟨some 14,.ld false 1 (.tmp 13),none⟩,
        ⟨some 15,.mov (.tmp 3),none⟩,
        ⟨some 16,.ixa 2 (.tmp 14) (.tmp 15),none⟩,
        ⟨some 17,.fad 0 (.tmp 16),none⟩,
        ⟨some 18,.ld false 1 (.tmp 17),none⟩,
        ⟨some 19,.fad 0 (.tmp 1),none⟩,
        ⟨some 20,.ld false 1 (.tmp 19),none⟩,
        ⟨some 21,.mov (.tmp 3),none⟩,
        ⟨some 22,.ixa 2 (.tmp 20) (.tmp 21),none⟩,
        ⟨some 23,.fad 1 (.tmp 22),none⟩,
        ⟨some 24,.ld false 1 (.tmp 23),none⟩,
        ⟨some 25,.bsl 1 9 1 2 [(.str []),(.str [])] [(0,(.tmp 18)),(1,(.tmp 24))],none⟩,
        ⟨some 26,.call 95 [(.tmp 25)],none⟩,
        ⟨some 27,.not (.tmp 26),none⟩] [(0,2),(1,2),(0,6),(1,6),(2,6),(3,6),(4,6),(5,6),(0,7),(1,7),(2,7),(3,7),(4,7),(5,7),(0,8),(1,8),(2,8),(3,8),(4,8),(5,8),(6,8),(7,8),(0,9),(1,9),(2,9),(3,9),(4,9),(5,9),(0,10),(1,10),(2,10),(3,10),(4,10),(5,10),(0,11),(1,11),(2,11),(3,11),(4,11),(5,11)])
       (.cond (.tmp 27)
       (.seq
        (.reg [] [⟨some 2,.mov (.cst (.d (.bool false))),none⟩])
        .ret)
       .skip)))
      (.reg [] [⟨some 11,.mov (.tmp 3),none⟩,
       ⟨some 12,.arith .add .i64 (.tmp 11) (.cst (.d (.int .i64 1))),none⟩,
       ⟨some 3,.mov (.tmp 12),none⟩])))))))))
  (.seq
  (.seq
   (.reg [] [⟨some 4,.mov (.cst (.d (.int .i64 0))),none⟩])
   (.post [1] [0,1,2,3]
   (.block 2
    (.keep [1,4] [0,1]
    (.loop
     (.post [1,4] [2,3]
     (.seq
      (.seq
      (.reg [] [⟨some 28,.mov (.tmp 4),none⟩,
       ⟨some 29,.fad 1 (.tmp 1),none⟩,
       ⟨some 30,.ld false 1 (.tmp 29),none⟩,
       ⟨some 31,.len (.tmp 30),none⟩,
       ⟨some 32,.cmp .lss (.tmp 28) (.tmp 31),none⟩])
      (.cond (.tmp 32)
       .skip
       (.exit 2)))
      (.seq
      (.block 3
       (.seq
       (.reg [2] [⟨some 35,.fad 1 (.tmp 1),none⟩,
        ⟨some 36,.ld false 1 (.tmp 35),none⟩,
        ⟨some 37,.mov (.tmp 4),none⟩,
        ⟨some 38,.ixa 6 (.tmp 36) (.tmp 37),none⟩,
        ⟨some 39,.ld true 6 (.tmp 38),none⟩,
        ⟨some 5,.alloc 2 [(.d (.str [])),(.d (.str [])),(.d (.str [])),(.d (.str [])),(.d (.int .i64 0)),(.d (.int .i64 0))],none⟩,
        ⟨none,.st 6 (.tmp 5) (.tmp 39),none⟩])
       (.seq
        (.reg [3] [⟨some 40,.fad 0 (.tmp 5),none⟩,
         ⟨some 41,.ld false 1 (.tmp 40),none⟩,
         ⟨some 42,.fad 1 (.tmp 5),none⟩,
         ⟨some 43,.ld false 1 (.tmp 42),none⟩,
         ⟨some 44,.fad 2 (.tmp 5),none⟩,
         ⟨some 45,.ld false 1 (.tmp 44),none⟩,
         ⟨some 46,.fad 3 (.tmp 5),none⟩,
         ⟨some 47,.ld false 1 (.tmp 46),none⟩,
         ⟨some 48,.bsl 3 9 1 4 [(.str []),(.str []),(.str []),(.str [])] [(0,(.tmp 41)),(1,(.tmp 43)),(2,(.tmp 45)),(3,(.tmp 47))],none⟩,
         ⟨some 49,.call 95 [(.tmp 48)],none⟩,
         ⟨some 50,.not (.tmp 49),none⟩])
        (.cond (.tmp 50)
        (.seq
         (.reg [] [⟨some 2,.mov (.cst (.d (.bool false))),none⟩])
         .ret)
        .skip))))
      (.reg [] [⟨some 33,.mov (.tmp 4),none⟩,
       ⟨some 34,.arith .add .i64 (.tmp 33) (.cst (.d (.int .i64 1))),none⟩,
       ⟨some 4,.mov (.tmp 34),none⟩])))))))))
  (.seq
   (.reg [] [⟨some 51,.fad 0 (.tmp 1),none⟩,
    ⟨some 52,.ld false 1 (.tmp 51),none⟩,
    ⟨some 53,.len (.tmp 52),none⟩,
    ⟨some 54,.cmp .leq (.tmp 53) (.cst (.d (.int .i64 6))),none⟩,
    ⟨some 55,.mov (.tmp 54),none⟩,
    ⟨some 56,.fad 0 (.tmp 1),some (55,false)⟩,
    ⟨some 57,.ld false 1 (.tmp 56),some (55,false)⟩,
    ⟨some 58,.len (.tmp 57),some (55,false)⟩,
    ⟨some 59,.cmp .eql (.tmp 58) (.cst (.d (.int .i64 17))),some (55,false)⟩,
    ⟨some 60,.pick (.tmp 55) (.cst (.d (.bool true))) (.tmp 59),none⟩,
    ⟨some 61,.mov (.tmp 60),none⟩,
    ⟨some 62,.fad 1 (.tmp 1),some (61,true)⟩,
    ⟨some 63,.ld false 1 (.tmp 62),some (61,true)⟩,
    ⟨some 64,.len (.tmp 63),some (61,true)⟩,
    ⟨some 65,.cmp .leq (.tmp 64) (.cst (.d (.int .i64 10))),some (61,true)⟩,
    ⟨some 66,.mov (.tmp 65),some (61,true)⟩,
    ⟨some 67,.fad 1 (.tmp 1),some (66,false)⟩,
    ⟨some 68,.ld false 1 (.tmp 67),some (66,false)⟩,
    ⟨some 69,.len (.tmp 68),some (66,false)⟩,
    ⟨some 70,.cmp .eql (.tmp 69) (.cst (.d (.int .i64 33))),some (66,false)⟩,
    ⟨some 71,.pick (.tmp 66) (.cst (.d (.bool true))) (.tmp 70),some (61,true)⟩,
    ⟨some 72,.pick (.tmp 61) (.tmp 71) (.cst (.d (.bool false))),none⟩,
    ⟨some 2,.mov (.tmp 72),none⟩])
   .ret))))⟩
theorem c117 (l:List Ob) (G:List Gr) (ri ob:List UInt8) (hl:l.length≤1048576):CallDet Tryz.prog 117 [.d (.agg [.slice 2 (obs l),.slice 6 (grs G),.str ri,.str ob])] [.int .i64 (askE l ri ob)]:=by
 have c107_:=c107 l G ob hl
 have c99_:CallDet Tryz.prog 99 [.d (.slice 1 [.int .i64 (bif !(isNm ri) then 8 else 0),.int .i64 (bif !(isNm ob) then 8 else 0),.int .i64 (bif !(ownO l ob).isSome then 10 else 0)])] [.int .i64 (askE l ri ob)]:=c99 [nmE ri,nmE ob,bif !(ownO l ob).isSome then 10 else 0] (by simp)
 refine call_of_vc (x:=jr117) (by kernel_rfl) rfl ?_
 refine ca c107_ ?_
 refine ca (c116 _) ?_
 refine ca (c116 _) ?_
 refine ca (c103 _ _) ?_
 refine sd ?_
 refine sd ?_
 refine ca c99_ ?_
 exact rfl
theorem c31 (l:List Ob) (G:List Gr) (ri ob:List UInt8) (hl:l.length≤1048576):CallDet Tryz.prog 31 [.d (.agg [.slice 2 (obs l),.slice 6 (grs G)]),.d (.str ri),.d (.str ob)] [.int .i64 (askE l ri ob)]:=by
 have c109_:=c109 l ob hl
 have c110_:CallDet Tryz.prog 110 [.d (.slice 1 [.int .i64 (bif !(isNm ri) then 8 else 0),.int .i64 (bif !(isNm ob) then 8 else 0),.int .i64 (bif !(ownO l ob).isSome then 10 else 0)])] [.int .i64 (askE l ri ob)]:=c110 [nmE ri,nmE ob,bif !(ownO l ob).isSome then 10 else 0] (by simp)
 refine call_of_vc (x:=jr31) (by kernel_rfl) rfl ?_
 refine ca c109_ ?_
 refine ca (c111 _) ?_
 refine ca (c111 _) ?_
 refine ca (c22 _ _) ?_
 refine sd ?_
 refine sd ?_
 refine ca c110_ ?_
 exact rfl
theorem c20 (l:List Ob) (G:List Gr) (of ri ob:List UInt8) (day:Int) (hl:l.length≤1048576):CallDet Tryz.prog 20 [.d (.agg [.slice 2 (obs l),.slice 6 (grs G)]),.d (.agg [.str of,.str ri,.str ob,.int .i64 day])] [.int .i64 (firstOf [nmE of,askE l ri ob])]:=by
 have c31_:=c31 l G ri ob hl
 have c110_:CallDet Tryz.prog 110 [.d (.slice 1 [.int .i64 (bif !(isNm of) then 8 else 0),.int .i64 (askE l ri ob)])] [.int .i64 (firstOf [nmE of,askE l ri ob])]:=c110 [nmE of,askE l ri ob] (by simp)
 refine call_of_vc (x:=jr20) (by kernel_rfl) rfl ?_
 refine ca (c111 _) ?_
 refine ca c31_ ?_
 refine sd ?_
 refine sd ?_
 refine ca c110_ ?_
 exact rfl
theorem c12 (of ri ob:List UInt8) (day:Int):CallDet Tryz.prog 12 [.d (.agg [.str of,.str ri,.str ob,.int .i64 day])] [.bool (shortW [of,ri,ob])]:=by
 have c95_:CallDet Tryz.prog 95 [.d (.slice 1 [.str of,.str ri,.str ob])] [.bool (shortW [of,ri,ob])]:=c95 [of,ri,ob] (by simp)
 refine call_of_vc (x:=jr12) (by kernel_rfl) rfl ?_
 refine sd ?_
 refine sd ?_
 refine ca c95_ ?_
 exact rfl
theorem c11 (l:List Ob) (G:List Gr) (hl:l.length≤1048576) (hG:G.length≤1048576):CallDet Tryz.prog 11 [.d (.agg [.slice 2 (obs l),.slice 6 (grs G)])] [.bool (shortB l G)]:=by
 have hlo:=obs_len l
 have hlg:=grs_len G
 refine call_of_vc (x:=jr11) (by kernel_rfl) rfl ?_
 rotate_left
 refine loop_st (fun k:Nat=>⟨[(1,.ptr 0 0),(3,.d (.int .i64 ((k:Nat))))],[.cbox [.slice 2 (obs l),.slice 6 (grs G)],.none,.none,.none]⟩) (fun k=>k≤l.length∧(l.all fun x=>shortW [x.1,x.2])=((l.drop k).all fun x=>shortW [x.1,x.2])) (fun k=>l.length - k) 0 rfl ⟨Nat.zero_le _,rfl⟩ ?_
 rintro k ⟨hk,hi⟩
 have hk:k≤l.length:=hk
 dsimp only
 by_cases hkn:k < l.length
 ·refine Exists.elim (get_lt l hkn) fun x hx=>?_
  have hx1:=obs_at hx
  rw [drop_at hx,List.all_cons] at hi
  have c95_:CallDet Tryz.prog 95 [.d (.slice 1 [.str x.1,.str x.2])] [.bool (shortW [x.1,x.2])]:=c95 [x.1,x.2] (by simp)
  cases e:shortW [x.1,x.2] with
  | true =>
   rw [e] at c95_ hi
   have hi:(l.all fun x=>shortW [x.1,x.2])=((l.drop (k+1)).all fun x=>shortW [x.1,x.2]):=by rw [hi,Bool.true_and]
   have fin:∃ a':Nat,((a'≤l.length∧(l.all fun x=>shortW [x.1,x.2])=((l.drop a').all fun x=>shortW [x.1,x.2]))∧l.length - a' < l.length - k)∧(⟨[(1,.ptr 0 0),(3,.d (.int .i64 (((k:Int)+1))))],[.cbox [.slice 2 (obs l),.slice 6 (grs G)],.none,.none,.none]⟩:St)=⟨[(1,.ptr 0 0),(3,.d (.int .i64 ((a':Nat))))],[.cbox [.slice 2 (obs l),.slice 6 (grs G)],.none,.none,.none]⟩:=⟨k+1,⟨⟨by omega,hi⟩,by omega⟩,rfl⟩
   refine sd ?_
   refine b_lt (fun t1=>?_) (fun t1=>?_)
   refine ix_at hx1 ?_ ?_
   (show (0:Int)≤(↑k:Int); omega)
   refine ix_at hx1 ?_ ?_
   (show (0:Int)≤(↑k:Int); omega)
   refine sd ?_
   refine sd ?_
   refine ca c95_ ?_
   refine ar_add ?_ ?_
   refine an ?_ ?_
   (show (-9223372036854775808:Int)≤(↑k:Int)+(1:Int); omega)
   (show (↑k:Int)+(1:Int)≤(9223372036854775807:Int); omega)
   rotate_left
   (exfalso; omega)
   all_goals exact fin
  | false =>
   rw [e] at c95_ hi
   have hb:shortB l G=false:=by unfold shortB; rw [hi]; rfl
   rw [hb]
   refine sd ?_
   refine b_lt (fun t1=>?_) (fun t1=>?_)
   refine ix_at hx1 ?_ ?_
   (show (0:Int)≤(↑k:Int); omega)
   refine ix_at hx1 ?_ ?_
   (show (0:Int)≤(↑k:Int); omega)
   refine sd ?_
   refine sd ?_
   refine ca c95_ ?_
   exact rfl
   (exfalso; omega)
 have e:k=l.length:=by omega
 subst e
 rw [List.drop_eq_nil_of_le (Nat.le_refl _)] at hi
 have hO:shortB l G=((G.all fun g=>shortW [g.fr,g.to,g.ri,g.ob])&&((decide ((l.length:Int)≤6)||((l.length:Int)==17))&&(decide ((G.length:Int)≤10)||((G.length:Int)==33)))):=by unfold shortB; rw [hi]; rfl
 clear hi
 refine sd ?_
 refine b_lt (fun t1=>?_) (fun t1=>?_)
 (exfalso; omega)
 rotate_left
 refine loop_st (fun k:Nat=>⟨[(1,.ptr 0 0),(4,.d (.int .i64 ((k:Nat))))],[.cbox [.slice 2 (obs l),.slice 6 (grs G)],.none,.none,.none]⟩) (fun k=>k≤G.length∧(G.all fun g=>shortW [g.fr,g.to,g.ri,g.ob])=((G.drop k).all fun g=>shortW [g.fr,g.to,g.ri,g.ob])) (fun k=>G.length - k) 0 rfl ⟨Nat.zero_le _,rfl⟩ ?_
 rintro k ⟨hk2,hi⟩
 have hk2:k≤G.length:=hk2
 dsimp only
 by_cases hkn:k < G.length
 ·refine Exists.elim (get_lt G hkn) fun x hx=>?_
  have hx1:=grs_at hx
  rw [drop_at hx,List.all_cons] at hi
  have c95_:CallDet Tryz.prog 95 [.d (.slice 1 [.str x.fr,.str x.to,.str x.ri,.str x.ob])] [.bool (shortW [x.fr,x.to,x.ri,x.ob])]:=c95 [x.fr,x.to,x.ri,x.ob] (by simp)
  cases e:shortW [x.fr,x.to,x.ri,x.ob] with
  | true =>
   rw [e] at c95_ hi
   have hi:(G.all fun g=>shortW [g.fr,g.to,g.ri,g.ob])=((G.drop (k+1)).all fun g=>shortW [g.fr,g.to,g.ri,g.ob]):=by rw [hi,Bool.true_and]
   have fin:∃ a':Nat,((a'≤G.length∧(G.all fun g=>shortW [g.fr,g.to,g.ri,g.ob])=((G.drop a').all fun g=>shortW [g.fr,g.to,g.ri,g.ob]))∧G.length - a' < G.length - k)∧(⟨[(1,.ptr 0 0),(4,.d (.int .i64 (((k:Int)+1))))],[.cbox [.slice 2 (obs l),.slice 6 (grs G)],.none,.none,.none]⟩:St)=⟨[(1,.ptr 0 0),(4,.d (.int .i64 ((a':Nat))))],[.cbox [.slice 2 (obs l),.slice 6 (grs G)],.none,.none,.none]⟩:=⟨k+1,⟨⟨by omega,hi⟩,by omega⟩,rfl⟩
   refine sd ?_
   refine b_lt (fun t2=>?_) (fun t2=>?_)
   refine ix_at hx1 ?_ ?_
   (show (0:Int)≤(↑k:Int); omega)
   refine sd ?_
   refine sd ?_
   refine ca c95_ ?_
   refine ar_add ?_ ?_
   refine an ?_ ?_
   (show (-9223372036854775808:Int)≤(↑k:Int)+(1:Int); omega)
   (show (↑k:Int)+(1:Int)≤(9223372036854775807:Int); omega)
   rotate_left
   (exfalso; omega)
   all_goals exact fin
  | false =>
   rw [e] at c95_ hi
   have hb:shortB l G=false:=by rw [hO,hi]; rfl
   rw [hb]
   refine sd ?_
   refine b_lt (fun t2=>?_) (fun t2=>?_)
   refine ix_at hx1 ?_ ?_
   (show (0:Int)≤(↑k:Int); omega)
   refine sd ?_
   refine sd ?_
   refine ca c95_ ?_
   exact rfl
   (exfalso; omega)
 have e:k=G.length:=by omega
 subst e
 rw [List.drop_eq_nil_of_le (Nat.le_refl _)] at hi
 have hO:shortB l G=((decide ((l.length:Int)≤6)||((l.length:Int)==17))&&(decide ((G.length:Int)≤10)||((G.length:Int)==33))):=by rw [hO,hi]; rfl
 rw [hO]
 rw [← hlo,← hlg]
 refine sd ?_
 refine b_lt (fun t2=>?_) (fun t2=>?_)
 (exfalso; omega)
 refine sd ?_
 refine b_le (fun t3=>?_) (fun t3=>?_)
 refine sd ?_
 refine sd ?_
 refine b_le (fun t4=>?_) (fun t4=>?_)
 refine sd ?_
 rotate_left
 refine sd ?_
 rotate_left
 refine sd ?_
 refine b_eq (fun t5=>?_) (fun t5=>?_)
 refine sd ?_
 refine b_le (fun t6=>?_) (fun t6=>?_)
 refine sd ?_
 rotate_left
 refine sd ?_
 rotate_left
 refine sd ?_
 rotate_left
 all_goals refine congrArg (fun b:Bool=>resV [.bool b]) ?_
 all_goals first | (simp_all [cmpF]; done) | (simp_all [cmpF]; omega) | (rw [decide_eq_false (by omega)]; simp_all [cmpF]; done)
end Vc
