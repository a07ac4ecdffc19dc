import Derived.Test.YtifgdpnmgeffbaaGreatDoorG18
set_option linter.unusedSectionVars false
set_option linter.unusedVariables false
set_option linter.unusedSimpArgs false
set_option maxRecDepth 10000
set_option maxHeartbeats 4000000
namespace Vc
open Go Go.Proofs
def jr100:AFun:=⟨15,3,[.tmp 6],
 (.seq
 (.reg [0,1] [⟨some 3,.cbx 0 2 (.tmp 0),none⟩,
  ⟨some 5,.cbx 1 4 (.tmp 2),none⟩,
  ⟨some 6,.mov (.cst (.d (.int .i64 0))),none⟩])
 (.seq
  (.regd [2] [⟨some 7,.ld true 2 (.tmp 3),none⟩,
   ⟨some 8,.call 27 [(.tmp 7)],none⟩,
   ⟨some 9,.mov (.tmp 1),none⟩,
   ⟨some 10,.call 116 [(.tmp 9)],none⟩,
   ⟨some 11,.ld true 4 (.tmp 5),none⟩,
   ⟨some 12,.call 117 [(.tmp 11)],none⟩,
   ⟨some 13,.bsl 2 32 1 3 [(.int .i64 0),(.int .i64 0),(.int .i64 0)] [(0,(.tmp 8)),(1,(.tmp 10)),(2,(.tmp 12))],none⟩,
   ⟨some 14,.call 99 [(.tmp 13)],none⟩,
   ⟨some 6,.mov (.tmp 14),none⟩] [(0,2),(1,2),(0,4),(1,4),(2,4),(3,4)])
  .ret))⟩
def jr14:AFun:=⟨39,3,[.tmp 10,.tmp 11],
 (.seq
 (.reg [0] [⟨some 5,.cbx 0 2 (.tmp 0),none⟩,
  ⟨some 10,.mov (.cst (.d (.bool false))),none⟩,
  ⟨some 11,.mov (.cst (.d (.int .i64 0))),none⟩])
 (.seq
  (.reg [1] [⟨some 16,.ld true 2 (.tmp 5),none⟩,
   ⟨some 17,.mov (.tmp 2),none⟩,
   ⟨some 18,.mov (.tmp 3),none⟩,
   ⟨some 19,.build [(.nils 2),(.nils 6),(.d (.str [])),(.d (.str []))] [(0,2,(.tmp 16)),(2,1,(.tmp 17)),(3,1,(.tmp 18))],none⟩,
   ⟨some 12,.alloc 1 [(.nils 2),(.nils 6),(.d (.str [])),(.d (.str []))],none⟩,
   ⟨none,.st 4 (.tmp 12) (.tmp 19),none⟩])
  (.seq
  (.seq
   (.reg [2] [⟨some 20,.ld true 2 (.tmp 5),none⟩,
    ⟨some 21,.mov (.tmp 1),none⟩,
    ⟨some 22,.ld true 4 (.tmp 12),none⟩,
    ⟨some 23,.call 100 [(.tmp 20),(.tmp 21),(.tmp 22)],none⟩,
    ⟨some 24,.mov (.tmp 4),none⟩,
    ⟨some 25,.call 101 [(.tmp 24)],none⟩,
    ⟨some 26,.bsl 2 32 1 2 [(.int .i64 0),(.int .i64 0)] [(0,(.tmp 23)),(1,(.tmp 25))],none⟩,
    ⟨some 27,.call 99 [(.tmp 26)],none⟩,
    ⟨some 13,.mov (.tmp 27),none⟩])
   (.seq
   (.reg [] [⟨some 28,.mov (.tmp 13),none⟩,
    ⟨some 29,.cmp .neq (.tmp 28) (.cst (.d (.int .i64 0))),none⟩])
   (.cond (.tmp 29)
    (.seq
    (.reg [] [⟨some 30,.mov (.tmp 13),none⟩,
     ⟨some 10,.mov (.cst (.d (.bool false))),none⟩,
     ⟨some 11,.mov (.tmp 30),none⟩])
    .ret)
    .skip)))
  (.seq
   (.reg [] [⟨some 32,.ld true 4 (.tmp 12),none⟩,
    ⟨some 33,.mov (.tmp 1),none⟩,
    ⟨some 34,.mov (.tmp 4),none⟩,
    ⟨some 35,.call 102 [(.tmp 32),(.tmp 33),(.tmp 34)],none⟩,
    ⟨some 31,.mov (.tmp 35),none⟩,
    ⟨some 36,.ext 0 (.tmp 31),none⟩,
    ⟨some 37,.ext 1 (.tmp 31),none⟩,
    ⟨some 14,.mov (.tmp 36),none⟩,
    ⟨some 15,.mov (.tmp 37),none⟩])
   (.seq
   (.reg [] [⟨some 38,.mov (.tmp 15),none⟩,
    ⟨some 10,.mov (.tmp 38),none⟩,
    ⟨some 11,.mov (.cst (.d (.int .i64 0))),none⟩])
   .ret)))))⟩
def jr16:AFun:=⟨41,3,[.tmp 10,.tmp 11],
 (.seq
 (.reg [0] [⟨some 5,.cbx 0 2 (.tmp 0),none⟩,
  ⟨some 10,.mov (.cst (.nils 1)),none⟩,
  ⟨some 11,.mov (.cst (.d (.int .i64 0))),none⟩])
 (.seq
  (.reg [1] [⟨some 16,.ld true 2 (.tmp 5),none⟩,
   ⟨some 17,.mov (.tmp 2),none⟩,
   ⟨some 18,.mov (.tmp 3),none⟩,
   ⟨some 19,.build [(.nils 2),(.nils 6),(.d (.str [])),(.d (.str []))] [(0,2,(.tmp 16)),(2,1,(.tmp 17)),(3,1,(.tmp 18))],none⟩,
   ⟨some 12,.alloc 1 [(.nils 2),(.nils 6),(.d (.str [])),(.d (.str []))],none⟩,
   ⟨none,.st 4 (.tmp 12) (.tmp 19),none⟩])
  (.seq
  (.seq
   (.reg [2] [⟨some 20,.ld true 2 (.tmp 5),none⟩,
    ⟨some 21,.mov (.tmp 1),none⟩,
    ⟨some 22,.ld true 4 (.tmp 12),none⟩,
    ⟨some 23,.call 100 [(.tmp 20),(.tmp 21),(.tmp 22)],none⟩,
    ⟨some 24,.mov (.tmp 4),none⟩,
    ⟨some 25,.call 101 [(.tmp 24)],none⟩,
    ⟨some 26,.bsl 2 32 1 2 [(.int .i64 0),(.int .i64 0)] [(0,(.tmp 23)),(1,(.tmp 25))],none⟩,
    ⟨some 27,.call 99 [(.tmp 26)],none⟩,
    ⟨some 13,.mov (.tmp 27),none⟩])
   (.seq
   (.reg [] [⟨some 28,.mov (.tmp 13),none⟩,
    ⟨some 29,.cmp .neq (.tmp 28) (.cst (.d (.int .i64 0))),none⟩])
   (.cond (.tmp 29)
    (.seq
    (.reg [] [⟨some 30,.mov (.tmp 13),none⟩,
     ⟨some 10,.mov (.cst (.nils 1)),none⟩,
     ⟨some 11,.mov (.tmp 30),none⟩])
    .ret)
    .skip)))
  (.seq
   (.reg [] [⟨some 32,.ld true 4 (.tmp 12),none⟩,
    ⟨some 33,.mov (.tmp 1),none⟩,
    ⟨some 34,.mov (.tmp 4),none⟩,
    ⟨some 35,.call 102 [(.tmp 32),(.tmp 33),(.tmp 34)],none⟩,
    ⟨some 31,.mov (.tmp 35),none⟩,
    ⟨some 36,.ext 0 (.tmp 31),none⟩,
    ⟨some 37,.ext 1 (.tmp 31),none⟩,
    ⟨some 14,.mov (.tmp 36),none⟩,
    ⟨some 15,.mov (.tmp 37),none⟩])
   (.seq
   (.seq
    (.reg [] [⟨some 38,.mov (.tmp 15),none⟩,
     ⟨some 39,.not (.tmp 38),none⟩])
    (.cond (.tmp 39)
    (.seq
     (.reg [] [⟨some 10,.mov (.cst (.nils 1)),none⟩,
      ⟨some 11,.mov (.cst (.d (.int .i64 7))),none⟩])
     .ret)
    .skip))
   (.seq
    (.reg [] [⟨some 40,.mov (.tmp 14),none⟩,
     ⟨some 10,.mov (.tmp 40),none⟩,
     ⟨some 11,.mov (.cst (.d (.int .i64 0))),none⟩])
    .ret))))))⟩
theorem bookE_le {l:List Ob} {G:List Gr} (h:bookE l G=0):G.length≤32:=by
 by_cases h1:(16:Int) < (l.length:Int)
 ·rw [bk_1 h1] at h; exact absurd h (by decide)
 ·by_cases h2:obE l []=0
  ·by_cases h3:(32:Int) < (G.length:Int)
   ·rw [bk_3 h1 h2 h3] at h; exact absurd h (by decide)
   ·omega
  ·rw [bk_2 h1 h2] at h; exact absurd h h2
def qE (l:List Ob) (G:List Gr) (of ri ob:Nm):Int:=firstOf [bookE l G,nmE of,askE l ri ob]
def qdE (l:List Ob) (G:List Gr) (of ri ob:Nm) (day:Int):Int:=firstOf [qE l G of ri ob,within3 day 0 100000]
theorem qdE_le {l:List Ob} {G:List Gr} {of ri ob:Nm} {day:Int} (h:qdE l G of ri ob day=0):G.length≤32:=by
 have h1:=firstOf_zero h (qE l G of ri ob) List.mem_cons_self
 exact bookE_le (firstOf_zero h1 (bookE l G) List.mem_cons_self)
theorem c100 (l:List Ob) (G:List Gr) (of ri ob:Nm) (hl:l.length≤1048576) (hG:G.length≤1048576):CallDet Tryz.prog 100 [.d (.agg [.slice 2 (obs l),.slice 6 (grs G)]),.d (.str of),.d (.agg [.slice 2 (obs l),.slice 6 (grs G),.str ri,.str ob])] [.int .i64 (qE l G of ri ob)]:=by
 have c27_:=c27 l G hl hG
 have c117_:=c117 l G ri ob hl
 have c99_:CallDet Tryz.prog 99 [.d (.slice 1 [.int .i64 (bookE l G),.int .i64 (bif !(isNm of) then 8 else 0),.int .i64 (askE l ri ob)])] [.int .i64 (qE l G of ri ob)]:=c99 [bookE l G,nmE of,askE l ri ob] (by simp)
 refine call_of_vc (x:=jr100) (by kernel_rfl) rfl ?_
 refine ca c27_ ?_
 refine ca (c116 _) ?_
 refine ca c117_ ?_
 refine sd ?_
 refine sd ?_
 refine ca c99_ ?_
 exact rfl
theorem c14 (l:List Ob) (G:List Gr) (of ri ob:Nm) (day:Int) (hl:l.length≤1048576) (hG:G.length≤1048576):CallDet Tryz.prog 14 [.d (.agg [.slice 2 (obs l),.slice 6 (grs G)]),.d (.str of),.d (.str ri),.d (.str ob),.d (.int .i64 day)] [.bool (bif qdE l G of ri ob day != 0 then false else (chainP l G ri ob day of).isSome),.int .i64 (qdE l G of ri ob day)]:=by
 have c100_:=c100 l G of ri ob hl hG
 have c99_:CallDet Tryz.prog 99 [.d (.slice 1 [.int .i64 (qE l G of ri ob),.int .i64 (within3 day 0 100000)])] [.int .i64 (qdE l G of ri ob day)]:=c99 [qE l G of ri ob,within3 day 0 100000] (by simp)
 refine call_of_vc (x:=jr14) (by kernel_rfl) rfl ?_
 cases h:qdE l G of ri ob day != 0 with
 | true =>
  refine ca c100_ ?_
  refine ca (c101 _) ?_
  refine sd ?_
  refine sd ?_
  refine ca c99_ ?_
  refine sd ?_
  refine b_t h ?_
  exact rfl
 | false =>
  have h0:qdE l G of ri ob day=0:=by simpa using h
  have c102_:=c102 l G ri ob of day hl (qdE_le h0)
  refine ca c100_ ?_
  refine ca (c101 _) ?_
  refine sd ?_
  refine sd ?_
  refine ca c99_ ?_
  refine sd ?_
  refine b_f h ?_
  refine ca c102_ ?_
  rotate_left
  rw [h0]; rfl
theorem c16 (l:List Ob) (G:List Gr) (of ri ob:Nm) (day:Int) (hl:l.length≤1048576) (hG:G.length≤1048576):CallDet Tryz.prog 16 [.d (.agg [.slice 2 (obs l),.slice 6 (grs G)]),.d (.str of),.d (.str ri),.d (.str ob),.d (.int .i64 day)] [.slice 1 (bif qdE l G of ri ob day != 0 then [] else ints ((chainP l G ri ob day of).getD [])),.int .i64 (bif qdE l G of ri ob day != 0 then qdE l G of ri ob day else bif (chainP l G ri ob day of).isSome then 0 else 7)]:=by
 have c100_:=c100 l G of ri ob hl hG
 have c99_:CallDet Tryz.prog 99 [.d (.slice 1 [.int .i64 (qE l G of ri ob),.int .i64 (within3 day 0 100000)])] [.int .i64 (qdE l G of ri ob day)]:=c99 [qE l G of ri ob,within3 day 0 100000] (by simp)
 refine call_of_vc (x:=jr16) (by kernel_rfl) rfl ?_
 cases h:qdE l G of ri ob day != 0 with
 | true =>
  refine ca c100_ ?_
  refine ca (c101 _) ?_
  refine sd ?_
  refine sd ?_
  refine ca c99_ ?_
  refine sd ?_
  refine b_t h ?_
  exact rfl
 | false =>
  have h0:qdE l G of ri ob day=0:=by simpa using h
  have c102_:=c102 l G ri ob of day hl (qdE_le h0)
  cases hc:chainP l G ri ob day of with
  | none =>
   rw [hc] at c102_
   refine ca c100_ ?_
   refine ca (c101 _) ?_
   refine sd ?_
   refine sd ?_
   refine ca c99_ ?_
   refine sd ?_
   refine b_f h ?_
   refine ca c102_ ?_
   exact rfl
  | some c =>
   rw [hc] at c102_
   refine ca c100_ ?_
   refine ca (c101 _) ?_
   refine sd ?_
   refine sd ?_
   refine ca c99_ ?_
   refine sd ?_
   refine b_f h ?_
   refine ca c102_ ?_
   exact rfl
end Vc
set_option maxRecDepth 10000
set_option maxHeartbeats 4000000
namespace Vc
open Go Go.Proofs
def jr105:AFun:=⟨13,0,[.tmp 3],
 (.seq
 (.reg [] [⟨some 3,.mov (.cst (.d (.bool false))),none⟩])
 (.seq
  (.reg [] [⟨some 4,.mov (.tmp 0),none⟩,
   ⟨some 5,.cmp .lss (.tmp 4) (.cst (.d (.int .i64 0))),none⟩,
   ⟨some 6,.mov (.tmp 5),none⟩,
   ⟨some 7,.mov (.tmp 0),some (6,false)⟩,
   ⟨some 8,.fad 1 (.tmp 1),some (6,false)⟩,
   ⟨some 9,.ld false 1 (.tmp 8),some (6,false)⟩,
   ⟨some 10,.len (.tmp 9),some (6,false)⟩,
   ⟨some 11,.cmp .geq (.tmp 7) (.tmp 10),some (6,false)⟩,
   ⟨some 12,.pick (.tmp 6) (.cst (.d (.bool true))) (.tmp 11),none⟩,
   ⟨some 3,.mov (.tmp 12),none⟩])
  .ret))⟩
def jr160:AFun:=⟨19,0,[.tmp 4],
 (.seq
 (.reg [] [⟨some 4,.mov (.cst (.d (.int .i64 0))),none⟩])
 (.seq
  (.seq
  (.reg [] [⟨some 6,.mov (.tmp 0),none⟩,
   ⟨some 7,.len (.tmp 6),none⟩,
   ⟨some 8,.mov (.cst (.d (.int .i64 0))),none⟩])
  (.post [] []
   (.block 0
   (.keep [0,1,7,8] []
    (.loop
    (.post [0,1,7,8] []
     (.seq
     (.reg [] [⟨some 9,.cmp .lss (.tmp 8) (.tmp 7),none⟩])
     (.seq
      (.cond (.tmp 9)
      .skip
      (.exit 0))
      (.seq
      (.block 1
       (.seq
       (.reg [] [⟨some 10,.mov (.tmp 8),none⟩,
        ⟨some 5,.mov (.tmp 10),none⟩])
       (.seq
        (.reg [] [⟨some 11,.mov (.tmp 1),none⟩,
         ⟨some 12,.mov (.tmp 0),none⟩,
         ⟨some 13,.mov (.tmp 5),none⟩,
         ⟨some 14,.ixa 1 (.tmp 12) (.tmp 13),none⟩,
         ⟨some 15,.ld false 1 (.tmp 14),none⟩,
         ⟨some 16,.callv (.tmp 11) [(.tmp 15)],none⟩])
        (.cond (.tmp 16)
        (.seq
         (.reg [] [⟨some 17,.mov (.tmp 5),none⟩,
          ⟨some 4,.mov (.tmp 17),none⟩])
         .ret)
        .skip))))
      (.reg [] [⟨some 18,.arith .add .i64 (.tmp 8) (.cst (.d (.int .i64 1))),none⟩,
       ⟨some 8,.mov (.tmp 18),none⟩]))))))))))
  (.seq
  (.reg [] [⟨some 4,.mov (.cst (.d (.int .i64 (-1)))),none⟩])
  .ret)))⟩
def jr104:AFun:=⟨9,0,[.tmp 4],
 (.seq
 (.reg [] [⟨some 4,.mov (.cst (.d (.bool false))),none⟩])
 (.seq
  (.reg [] [⟨some 5,.mov (.tmp 0),none⟩,
   ⟨some 6,.mov (.tmp 1),none⟩,
   ⟨some 7,.call 160 [(.tmp 5),(.tmp 6)],none⟩,
   ⟨some 8,.cmp .geq (.tmp 7) (.cst (.d (.int .i64 0))),none⟩,
   ⟨some 4,.mov (.tmp 8),none⟩])
  .ret))⟩
def badI (G:List Gr) (x:Int):Bool:=decide (x < 0)||decide ((G.length:Int)≤x)
theorem c105 (l:List Ob) (G:List Gr) (x:Int):CallDet Tryz.prog 105 [.d (.int .i64 x),.cp [.slice 2 (obs l),.slice 6 (grs G)] 0] [.bool (badI G x)]:=by
 have hlg:=grs_len G
 refine call_of_vc (x:=jr105) (by kernel_rfl) rfl ?_
 unfold badI
 rw [← hlg]
 cases h:decide (x < 0) with
 | true =>
  refine sd ?_
  refine b_t h ?_
  refine sd ?_
  exact rfl
 | false =>
  refine sd ?_
  refine b_f h ?_
  refine sd ?_
  exact rfl
theorem c160 (l:List Ob) (G:List Gr) (c:List Int) (hc:c.length≤1048576):CallDet Tryz.prog 160 [.d (.slice 1 (ints c)),.d (.fn (.func 105) [.agg [.slice 2 (obs l),.slice 6 (grs G)]])] [.int .i64 (ixF (badI G) c 0)]:=by
 have hlen:=ints_len c
 refine call_of_vc (x:=jr160) (by kernel_rfl) rfl ?_
 rotate_left
 refine loop_st (fun k:Nat=>⟨[(0,.d (.slice 1 (ints c))),(1,.d (.fn (.func 105) [.agg [.slice 2 (obs l),.slice 6 (grs G)]])),(7,.d (.int .i64 (((ints c).length:Nat):Int))),(8,.d (.int .i64 ((k:Nat))))],[]⟩) (fun k=>k≤c.length∧ixF (badI G) c 0=ixF (badI G) (c.drop k) (k:Int)) (fun k=>c.length - k) 0 rfl ⟨Nat.zero_le _,rfl⟩ ?_
 rintro k ⟨hk,hi⟩
 have hk:k≤c.length:=hk
 dsimp only
 by_cases hkn:k < c.length
 ·refine Exists.elim (get_lt c hkn) fun x hx=>?_
  have hx1:=ints_get hx
  rw [drop_at hx,ixF] at hi
  have c105_:=c105 l G x
  cases e:badI G x with
  | true =>
   rw [e] at c105_ hi
   have hi:ixF (badI G) c 0=(k:Int):=hi
   rw [hi]
   refine sd ?_
   refine b_lt (fun t1=>?_) (fun t1=>?_)
   refine ix_at hx1 ?_ ?_
   (show (0:Int)≤(↑k:Int); omega)
   refine ca c105_ ?_
   exact rfl
   (exfalso; omega)
  | false =>
   rw [e] at c105_ hi
   have hi:ixF (badI G) c 0=ixF (badI G) (c.drop (k+1)) ((k:Int)+1):=hi
   have fin:∃ a':Nat,((a'≤c.length∧ixF (badI G) c 0=ixF (badI G) (c.drop a') (a':Int))∧c.length - a' < c.length - k)∧(⟨[(0,.d (.slice 1 (ints c))),(1,.d (.fn (.func 105) [.agg [.slice 2 (obs l),.slice 6 (grs G)]])),(7,.d (.int .i64 (((ints c).length:Nat):Int))),(8,.d (.int .i64 ((k:Int)+1)))],[]⟩:St)=⟨[(0,.d (.slice 1 (ints c))),(1,.d (.fn (.func 105) [.agg [.slice 2 (obs l),.slice 6 (grs G)]])),(7,.d (.int .i64 (((ints c).length:Nat):Int))),(8,.d (.int .i64 (a':Nat)))],[]⟩:=⟨k+1,⟨⟨by omega,hi⟩,by omega⟩,rfl⟩
   refine sd ?_
   refine b_lt (fun t1=>?_) (fun t1=>?_)
   refine ix_at hx1 ?_ ?_
   (show (0:Int)≤(↑k:Int); omega)
   refine ca c105_ ?_
   refine ar_add ?_ ?_
   refine an ?_ ?_
   (show (-9223372036854775808:Int)≤(↑k:Int)+(1:Int); omega)
   (show (↑k:Int)+(1:Int)≤(9223372036854775807:Int); omega)
   rotate_left
   (exfalso; omega)
   all_goals exact fin
 ·have e:k=c.length:=by omega
  subst e
  rw [List.drop_eq_nil_of_le (Nat.le_refl _)] at hi
  have hi:ixF (badI G) c 0=-1:=hi
  rw [hi]
  refine sd ?_
  refine b_lt (fun t1=>?_) (fun t1=>?_)
  (exfalso; omega)
  exact rfl
theorem c104 (l:List Ob) (G:List Gr) (c:List Int) (hc:c.length≤1048576):CallDet Tryz.prog 104 [.d (.slice 1 (ints c)),.d (.fn (.func 105) [.agg [.slice 2 (obs l),.slice 6 (grs G)]])] [.bool (c.any (badI G))]:=by
 have c160_:=c160 l G c hc
 have e:=ixF_any (badI G) c 0 (Int.le_refl _)
 rw [← e]
 refine call_of_vc (x:=jr104) (by kernel_rfl) rfl ?_
 refine ca c160_ ?_
 refine sd ?_
 exact rfl
end Vc
