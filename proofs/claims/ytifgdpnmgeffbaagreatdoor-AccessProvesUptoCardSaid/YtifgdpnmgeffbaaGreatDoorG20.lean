import Derived.Test.YtifgdpnmgeffbaaGreatDoorG19
set_option linter.unusedSectionVars false
set_option linter.unusedVariables false
set_option linter.unusedSimpArgs false
set_option maxRecDepth 10000
set_option maxHeartbeats 4000000
namespace Vc
open Go Go.Proofs
def jr17:AFun:=⟨100,4,[.tmp 12],
 (.seq
 (.reg [0] [⟨some 6,.cbx 0 2 (.tmp 0),none⟩,
  ⟨some 12,.mov (.cst (.d (.int .i64 0))),none⟩])
 (.seq
  (.reg [1] [⟨some 22,.ld true 2 (.tmp 6),none⟩,
   ⟨some 23,.mov (.tmp 2),none⟩,
   ⟨some 24,.mov (.tmp 3),none⟩,
   ⟨some 25,.build [(.nils 2),(.nils 6),(.d (.str [])),(.d (.str []))] [(0,2,(.tmp 22)),(2,1,(.tmp 23)),(3,1,(.tmp 24))],none⟩,
   ⟨some 13,.alloc 1 [(.nils 2),(.nils 6),(.d (.str [])),(.d (.str []))],none⟩,
   ⟨none,.st 4 (.tmp 13) (.tmp 25),none⟩])
  (.seq
  (.seq
   (.reg [2] [⟨some 26,.ld true 2 (.tmp 6),none⟩,
    ⟨some 27,.mov (.tmp 1),none⟩,
    ⟨some 28,.ld true 4 (.tmp 13),none⟩,
    ⟨some 29,.call 100 [(.tmp 26),(.tmp 27),(.tmp 28)],none⟩,
    ⟨some 30,.mov (.tmp 4),none⟩,
    ⟨some 31,.call 101 [(.tmp 30)],none⟩,
    ⟨some 32,.mov (.tmp 5),none⟩,
    ⟨some 33,.len (.tmp 32),none⟩,
    ⟨some 34,.cmp .gtr (.tmp 33) (.cst (.d (.int .i64 32))),none⟩,
    ⟨some 35,.call 103 [(.tmp 34),(.cst (.d (.int .i64 5)))],none⟩,
    ⟨some 36,.bsl 2 32 1 3 [(.int .i64 0),(.int .i64 0),(.int .i64 0)] [(0,(.tmp 29)),(1,(.tmp 31)),(2,(.tmp 35))],none⟩,
    ⟨some 37,.call 99 [(.tmp 36)],none⟩,
    ⟨some 14,.mov (.tmp 37),none⟩])
   (.seq
   (.reg [] [⟨some 38,.mov (.tmp 14),none⟩,
    ⟨some 39,.cmp .neq (.tmp 38) (.cst (.d (.int .i64 0))),none⟩])
   (.cond (.tmp 39)
    (.seq
    (.reg [] [⟨some 40,.mov (.tmp 14),none⟩,
     ⟨some 12,.mov (.tmp 40),none⟩])
    .ret)
    .skip)))
  (.seq
   (.seq
   (.reg [] [⟨some 41,.mov (.tmp 5),none⟩,
    ⟨some 42,.mkf (.func 105) [] [(.tmp 6)],none⟩,
    ⟨some 43,.call 104 [(.tmp 41),(.tmp 42)],none⟩])
   (.cond (.tmp 43)
    (.seq
    (.reg [] [⟨some 12,.mov (.cst (.d (.int .i64 10))),none⟩])
    .ret)
    .skip))
   (.seq
   (.seq
    (.reg [] [⟨some 44,.mov (.tmp 5),none⟩,
     ⟨some 45,.len (.tmp 44),none⟩,
     ⟨some 46,.mov (.cst (.d (.int .i64 0))),none⟩])
    (.post [1,3,4,5,6,13] [0,1,2]
    (.block 0
     (.keep [1,3,4,5,6,13,44,45,46] [0,1,2]
     (.loop
      (.post [1,3,4,5,6,13,44,45,46] []
      (.seq
       (.reg [] [⟨some 47,.cmp .lss (.tmp 46) (.tmp 45),none⟩])
       (.seq
       (.cond (.tmp 47)
        .skip
        (.exit 0))
       (.seq
        (.block 1
        (.seq
         (.reg [] [⟨some 48,.mov (.tmp 46),none⟩,
          ⟨some 49,.ixa 1 (.tmp 44) (.tmp 46),none⟩,
          ⟨some 50,.ld false 1 (.tmp 49),none⟩,
          ⟨some 15,.mov (.tmp 48),none⟩,
          ⟨some 16,.mov (.tmp 50),none⟩])
         (.seq
         (.reg [] [⟨some 51,.mov (.tmp 5),none⟩,
          ⟨some 52,.mov (.tmp 15),none⟩,
          ⟨some 53,.slc 1 (.tmp 51) none (some (.tmp 52)),none⟩,
          ⟨some 54,.mov (.tmp 16),none⟩,
          ⟨some 55,.call 106 [(.tmp 53),(.tmp 54)],none⟩])
         (.cond (.tmp 55)
          (.seq
          (.reg [] [⟨some 12,.mov (.cst (.d (.int .i64 9))),none⟩])
          .ret)
          .skip))))
        (.reg [] [⟨some 56,.arith .add .i64 (.tmp 46) (.cst (.d (.int .i64 1))),none⟩,
         ⟨some 46,.mov (.tmp 56),none⟩]))))))))))
   (.seq
    (.reg [] [⟨some 58,.fad 0 (.tmp 13),none⟩,
     ⟨some 59,.ld true 2 (.tmp 58),none⟩,
     ⟨some 60,.mov (.tmp 3),none⟩,
     ⟨some 61,.call 107 [(.tmp 59),(.tmp 60)],none⟩,
     ⟨some 57,.mov (.tmp 61),none⟩,
     ⟨some 62,.ext 0 (.tmp 57),none⟩,
     ⟨some 63,.ext 1 (.tmp 57),none⟩,
     ⟨some 17,.mov (.tmp 62),none⟩,
     ⟨some 18,.mov (.tmp 63),none⟩])
    (.seq
    (.seq
     (.reg [] [⟨some 64,.mov (.tmp 1),none⟩,
      ⟨some 65,.mov (.tmp 17),none⟩,
      ⟨some 66,.seq false (.tmp 64) (.tmp 65),none⟩])
     (.cond (.tmp 66)
     (.seq
      (.reg [] [⟨some 67,.mov (.tmp 5),none⟩,
       ⟨some 68,.len (.tmp 67),none⟩,
       ⟨some 69,.cmp .gtr (.tmp 68) (.cst (.d (.int .i64 0))),none⟩,
       ⟨some 70,.call 103 [(.tmp 69),(.cst (.d (.int .i64 19)))],none⟩,
       ⟨some 12,.mov (.tmp 70),none⟩])
      .ret)
     .skip))
    (.seq
     (.seq
     (.reg [] [⟨some 71,.mov (.tmp 5),none⟩,
      ⟨some 72,.len (.tmp 71),none⟩,
      ⟨some 73,.mov (.cst (.d (.int .i64 0))),none⟩])
     (.post [1,17] [0,1,2,3]
      (.block 2
      (.keep [1,4,6,13,17,71,72,73] [0,1,2]
       (.loop
       (.post [1,4,6,13,17,71,72,73] [3]
        (.seq
        (.reg [] [⟨some 74,.cmp .lss (.tmp 73) (.tmp 72),none⟩])
        (.seq
         (.cond (.tmp 74)
         .skip
         (.exit 2))
         (.seq
         (.block 3
          (.seq
          (.reg [] [⟨some 75,.ixa 1 (.tmp 71) (.tmp 73),none⟩,
           ⟨some 76,.ld false 1 (.tmp 75),none⟩,
           ⟨some 20,.mov (.tmp 76),none⟩])
          (.seq
           (.reg [3] [⟨some 77,.fad 1 (.tmp 6),none⟩,
            ⟨some 78,.ld false 1 (.tmp 77),none⟩,
            ⟨some 79,.mov (.tmp 20),none⟩,
            ⟨some 80,.ixa 6 (.tmp 78) (.tmp 79),none⟩,
            ⟨some 81,.ld true 6 (.tmp 80),none⟩,
            ⟨some 21,.alloc 3 [(.d (.str [])),(.d (.str [])),(.d (.str [])),(.d (.str [])),(.d (.int .i64 0)),(.d (.int .i64 0))],none⟩,
            ⟨none,.st 6 (.tmp 21) (.tmp 81),none⟩])
           (.seq
           (.seq
            (.reg [] [⟨some 82,.fad 0 (.tmp 21),none⟩,
             ⟨some 83,.ld false 1 (.tmp 82),none⟩,
             ⟨some 84,.mov (.tmp 17),none⟩,
             ⟨some 85,.seq true (.tmp 83) (.tmp 84),none⟩,
             ⟨some 86,.mov (.tmp 85),none⟩,
             ⟨some 87,.ld true 4 (.tmp 13),some (86,false)⟩,
             ⟨some 88,.ld true 6 (.tmp 21),some (86,false)⟩,
             ⟨some 89,.mov (.tmp 4),some (86,false)⟩,
             ⟨some 90,.call 108 [(.tmp 87),(.tmp 88),(.tmp 89)],some (86,false)⟩,
             ⟨some 91,.not (.tmp 90),some (86,false)⟩,
             ⟨some 92,.pick (.tmp 86) (.cst (.d (.bool true))) (.tmp 91),none⟩])
            (.cond (.tmp 92)
            (.seq
             (.reg [] [⟨some 12,.mov (.cst (.d (.int .i64 19))),none⟩])
             .ret)
            .skip))
           (.reg [] [⟨some 93,.fad 1 (.tmp 21),none⟩,
            ⟨some 94,.ld false 1 (.tmp 93),none⟩,
            ⟨some 17,.mov (.tmp 94),none⟩])))))
         (.reg [] [⟨some 95,.arith .add .i64 (.tmp 73) (.cst (.d (.int .i64 1))),none⟩,
          ⟨some 73,.mov (.tmp 95),none⟩]))))))))))
     (.seq
     (.reg [] [⟨some 96,.mov (.tmp 17),none⟩,
      ⟨some 97,.mov (.tmp 1),none⟩,
      ⟨some 98,.seq true (.tmp 96) (.tmp 97),none⟩,
      ⟨some 99,.call 103 [(.tmp 98),(.cst (.d (.int .i64 19)))],none⟩,
      ⟨some 12,.mov (.tmp 99),none⟩])
     .ret)))))))))⟩
def dupI:List Int→List Int→Bool
 | _,[]=>false
 | s,x::r=>bif s.contains x then true else dupI (s++[x]) r
def runC (ri ob:Nm) (day:Int) (G:List Gr):Nm→List Int→Option Nm
 | t,[]=>some t
 | t,i::r=>match G[i.toNat]? with
  | none=>none
  | some g=>bif g.fr==t&&holdB ri ob day g then runC ri ob day G g.to r else none
def cwE (l:List Ob) (G:List Gr) (of ri ob:Nm) (day:Int) (c:List Int):Int:=firstOf [qE l G of ri ob,within3 day 0 100000,bif decide ((32:Int) < (c.length:Int)) then 5 else 0]
def chkW (l:List Ob) (G:List Gr) (of ri ob:Nm) (day:Int) (c:List Int):Int :=
 bif cwE l G of ri ob day c != 0 then cwE l G of ri ob day c else bif c.any (badI G) then 10 else bif dupI [] c then 9 else
 bif of==(ownO l ob).getD [] then (bif decide (0 < (c.length:Int)) then 19 else 0) else
 match runC ri ob day G ((ownO l ob).getD []) c with
 | none=>19
 | some t=>bif t != of then 19 else 0
theorem badI_f {G:List Gr} {x:Int} (h:badI G x=false):0≤x∧x < (G.length:Int):=by
 unfold badI at h
 simp only [Bool.or_eq_false_iff,decide_eq_false_iff_not] at h
 omega
theorem runC_at {ri ob:Nm} {day:Int} {G:List Gr} {t:Nm} {n:Nat} {g:Gr} {r:List Int} (h:G[n]?=some g):runC ri ob day G t ((n:Int)::r)=bif g.fr==t&&holdB ri ob day g then runC ri ob day G g.to r else none:=by
 rw [runC]
 show (match G[n]? with | none=>none | some g=>_)=_
 rw [h]
theorem c17 (l:List Ob) (G:List Gr) (of ri ob:Nm) (day:Int) (c:List Int) (hl:l.length≤1048576) (hG:G.length≤1048576) (hc:c.length≤1048576):CallDet Tryz.prog 17 [.d (.agg [.slice 2 (obs l),.slice 6 (grs G)]),.d (.str of),.d (.str ri),.d (.str ob),.d (.int .i64 day),.d (.slice 1 (ints c))] [.int .i64 (chkW l G of ri ob day c)]:=by
 have c100_:=c100 l G of ri ob hl hG
 have hli:=ints_len c
 have c99_:CallDet Tryz.prog 99 [.d (.slice 1 [.int .i64 (qE l G of ri ob),.int .i64 (within3 day 0 100000),.int .i64 (bif decide ((32:Int) < ((ints c).length:Int)) then 5 else 0)])] [.int .i64 (cwE l G of ri ob day c)]:=by rw [hli]; exact c99 [qE l G of ri ob,within3 day 0 100000,bif decide ((32:Int) < (c.length:Int)) then 5 else 0] (by simp)
 have c103_:=c103 (decide ((32:Int) < ((ints c).length:Int))) 5
 have c104_:=c104 l G c hc
 refine call_of_vc (x:=jr17) (by kernel_rfl) rfl ?_
 unfold chkW
 cases h:cwE l G of ri ob day c != 0 with
 | true =>
  refine ca c100_ ?_
  refine ca (c101 _) ?_
  refine sd ?_
  refine ca c103_ ?_
  refine sd ?_
  refine sd ?_
  refine ca c99_ ?_
  refine sd ?_
  refine b_t h ?_
  exact rfl
 | false =>
  cases hb:c.any (badI G) with
  | true =>
   rw [hb] at c104_
   refine ca c100_ ?_
   refine ca (c101 _) ?_
   refine sd ?_
   refine ca c103_ ?_
   refine sd ?_
   refine sd ?_
   refine ca c99_ ?_
   refine sd ?_
   refine b_f h ?_
   refine ca c104_ ?_
   exact rfl
  | false =>
   rw [hb] at c104_
   refine ca c100_ ?_
   refine ca (c101 _) ?_
   refine sd ?_
   refine ca c103_ ?_
   refine sd ?_
   refine sd ?_
   refine ca c99_ ?_
   refine sd ?_
   refine b_f h ?_
   refine ca c104_ ?_
   rotate_left
   refine loop_st (fun k:Nat=>⟨[(1,.d (.str of)),(3,.d (.str ob)),(4,.d (.int .i64 day)),(5,.d (.slice 1 (ints c))),(6,.ptr 0 0),(13,.ptr 1 0),(44,.d (.slice 1 (ints c))),(45,.d (.int .i64 (((ints c).length:Nat):Int))),(46,.d (.int .i64 ((k:Nat))))],[.cbox [.slice 2 (obs l),.slice 6 (grs G)],.box [.d (.slice 2 (obs l)),.d (.slice 6 (grs G)),.d (.str ri),.d (.str ob)],.none,.none]⟩) (fun k=>k≤c.length∧dupI [] c=dupI (c.take k) (c.drop k)) (fun k=>c.length - k) 0 rfl ⟨Nat.zero_le _,rfl⟩ ?_
   rintro k ⟨hk,hi⟩
   have hk:k≤c.length:=hk
   dsimp only
   by_cases hkn:k < c.length
   ·refine Exists.elim (get_lt c hkn) fun x hx=>?_
    have hx1:=ints_get hx
    have ht:(ints c).take k=ints (c.take k):=(List.map_take).symm
    have ht1:c.take (k+1)=c.take k++[x]:=by rw [List.take_add_one,hx]; rfl
    have c106_:CallDet Tryz.prog 106 [.d (.slice 1 ((ints c).take k)),.d (.int .i64 x)] [.bool ((c.take k).contains x)]:=by rw [ht]; exact c106 (c.take k) x (by rw [List.length_take]; omega)
    rw [drop_at hx,dupI] at hi
    cases hs:(c.take k).contains x with
    | true =>
     rw [hs] at hi c106_
     have hi:dupI [] c=true:=hi
     rw [hi]
     refine sd ?_
     refine b_lt (fun t1=>?_) (fun t1=>?_)
     refine ix_at hx1 ?_ ?_
     (show (0:Int)≤(↑k:Int); omega)
     refine an ?_ ?_
     refine an ?_ ?_
     exact rfl
     refine an ?_ ?_
     (show (0:Int)≤(0:Int); omega)
     refine an ?_ ?_
     (show (0:Int)≤(↑k:Int); omega)
     (show (↑k:Int)≤(↑(List.length (ints c)):Int); omega)
     refine ca c106_ ?_
     exact rfl
     (exfalso; omega)
    | false =>
     rw [hs] at hi c106_
     have hi:dupI [] c=dupI (c.take k++[x]) (c.drop (k+1)):=hi
     rw [← ht1] at hi
     have fin:∃ a':Nat,((a'≤c.length∧dupI [] c=dupI (c.take a') (c.drop a'))∧c.length - a' < c.length - k)∧(⟨[(1,.d (.str of)),(3,.d (.str ob)),(4,.d (.int .i64 day)),(5,.d (.slice 1 (ints c))),(6,.ptr 0 0),(13,.ptr 1 0),(44,.d (.slice 1 (ints c))),(45,.d (.int .i64 (((ints c).length:Nat):Int))),(46,.d (.int .i64 ((k:Int)+1)))],[.cbox [.slice 2 (obs l),.slice 6 (grs G)],.box [.d (.slice 2 (obs l)),.d (.slice 6 (grs G)),.d (.str ri),.d (.str ob)],.none,.none]⟩:St)=⟨[(1,.d (.str of)),(3,.d (.str ob)),(4,.d (.int .i64 day)),(5,.d (.slice 1 (ints c))),(6,.ptr 0 0),(13,.ptr 1 0),(44,.d (.slice 1 (ints c))),(45,.d (.int .i64 (((ints c).length:Nat):Int))),(46,.d (.int .i64 (a':Nat)))],[.cbox [.slice 2 (obs l),.slice 6 (grs G)],.box [.d (.slice 2 (obs l)),.d (.slice 6 (grs G)),.d (.str ri),.d (.str ob)],.none,.none]⟩:=⟨k+1,⟨⟨by omega,hi⟩,by omega⟩,rfl⟩
     refine sd ?_
     refine b_lt (fun t1=>?_) (fun t1=>?_)
     refine ix_at hx1 ?_ ?_
     (show (0:Int)≤(↑k:Int); omega)
     refine an ?_ ?_
     refine an ?_ ?_
     exact rfl
     refine an ?_ ?_
     (show (0:Int)≤(0:Int); omega)
     refine an ?_ ?_
     (show (0:Int)≤(↑k:Int); omega)
     (show (↑k:Int)≤(↑(List.length (ints c)):Int); omega)
     refine ca c106_ ?_
     refine ar_add ?_ ?_
     refine an ?_ ?_
     (show (-9223372036854775808:Int)≤(↑k:Int)+(1:Int); omega)
     (show (↑k:Int)+(1:Int)≤(9223372036854775807:Int); omega)
     rotate_left
     (exfalso; omega)
     all_goals exact fin
   ·have e:k=c.length:=by omega
    subst e
    rw [List.drop_eq_nil_of_le (Nat.le_refl _)] at hi
    have hi:dupI [] c=false:=hi
    rw [hi]
    have c107_:=c107 l G ob hl
    cases ho:(of==(ownO l ob).getD []) with
    | true =>
     have c103b_:=c103 (decide ((0:Int) < ((ints c).length:Int))) 19
     rw [← hli]
     refine sd ?_
     refine b_lt (fun t1=>?_) (fun t1=>?_)
     (exfalso; omega)
     refine ca c107_ ?_
     refine b_t ho ?_
     refine sd ?_
     refine ca (c103 _ _) ?_
     exact rfl
    | false =>
     refine sd ?_
     refine b_lt (fun t1=>?_) (fun t1=>?_)
     (exfalso; omega)
     refine ca c107_ ?_
     refine b_f ho ?_
     rotate_left
     refine loop_st (fun p:Nat × Nm=>⟨[(1,.d (.str of)),(4,.d (.int .i64 day)),(6,.ptr 0 0),(13,.ptr 1 0),(17,.d (.str (p.2))),(71,.d (.slice 1 (ints c))),(72,.d (.int .i64 (((ints c).length:Nat):Int))),(73,.d (.int .i64 ((p.1:Nat))))],[.cbox [.slice 2 (obs l),.slice 6 (grs G)],.box [.d (.slice 2 (obs l)),.d (.slice 6 (grs G)),.d (.str ri),.d (.str ob)],.none,.none]⟩) (fun p=>p.1≤c.length∧runC ri ob day G ((ownO l ob).getD []) c=runC ri ob day G p.2 (c.drop p.1)) (fun p=>c.length - p.1) (0,(ownO l ob).getD []) rfl ⟨Nat.zero_le _,rfl⟩ ?_
     rintro ⟨k,t⟩ ⟨hk2,hi2⟩
     have hk3:k≤c.length:=hk2
     have hi3:runC ri ob day G ((ownO l ob).getD []) c=runC ri ob day G t (c.drop k):=hi2
     clear hk2 hi2
     dsimp only
     by_cases hkn2:k < c.length
     ·refine Exists.elim (get_lt c hkn2) fun x hx=>?_
      have hx1:=ints_get hx
      have hbx:badI G x=false:=by
       have:=List.any_eq_false.1 hb x (List.mem_of_getElem? hx)
       simpa using this
      obtain ⟨hb1,hb2⟩:=badI_f hbx
      obtain ⟨n,rfl⟩:∃ n:Nat,x=(n:Int):=⟨x.toNat,by omega⟩
      refine Exists.elim (get_lt G (k:=n) (by omega)) fun g hg=>?_
      have hg1:=grs_at hg
      have c108_:=c108 l G g ri ob day
      rw [drop_at hx,runC_at hg] at hi3
      cases h1:(g.fr != t) with
      | true =>
       have he:(g.fr==t)=false:=by simpa [bne] using h1
       have hi4:runC ri ob day G ((ownO l ob).getD []) c=none:=by rw [hi3,he]; rfl
       rw [hi4]
       refine sd ?_
       refine b_lt (fun t2=>?_) (fun t2=>?_)
       refine ix_at hx1 ?_ ?_
       (show (0:Int)≤(↑k:Int); omega)
       refine ix_at hg1 ?_ ?_
       assumption
       refine b_t h1 ?_
       refine sd ?_
       exact rfl
       (exfalso; omega)
      | false =>
       have he:(g.fr==t)=true:=by simpa [bne] using h1
       cases hh:holdB ri ob day g with
       | false =>
        rw [hh] at c108_
        have hi4:runC ri ob day G ((ownO l ob).getD []) c=none:=by rw [hi3,he,hh]; rfl
        rw [hi4]
        refine sd ?_
        refine b_lt (fun t2=>?_) (fun t2=>?_)
        refine ix_at hx1 ?_ ?_
        (show (0:Int)≤(↑k:Int); omega)
        refine ix_at hg1 ?_ ?_
        assumption
        refine b_f h1 ?_
        refine ca c108_ ?_
        exact rfl
        (exfalso; omega)
       | true =>
        rw [hh] at c108_
        have hi4:runC ri ob day G ((ownO l ob).getD []) c=runC ri ob day G g.to (c.drop (k+1)):=by rw [hi3,he,hh]; rfl
        have fin:∃ a':Nat × Nm,((a'.1≤c.length∧runC ri ob day G ((ownO l ob).getD []) c=runC ri ob day G a'.2 (c.drop a'.1))∧c.length - a'.1 < c.length - k)∧(⟨[(1,.d (.str of)),(4,.d (.int .i64 day)),(6,.ptr 0 0),(13,.ptr 1 0),(17,.d (.str (g.to))),(71,.d (.slice 1 (ints c))),(72,.d (.int .i64 (((ints c).length:Nat):Int))),(73,.d (.int .i64 ((k:Int)+1)))],[.cbox [.slice 2 (obs l),.slice 6 (grs G)],.box [.d (.slice 2 (obs l)),.d (.slice 6 (grs G)),.d (.str ri),.d (.str ob)],.none,.none]⟩:St)=⟨[(1,.d (.str of)),(4,.d (.int .i64 day)),(6,.ptr 0 0),(13,.ptr 1 0),(17,.d (.str (a'.2))),(71,.d (.slice 1 (ints c))),(72,.d (.int .i64 (((ints c).length:Nat):Int))),(73,.d (.int .i64 (a'.1:Nat)))],[.cbox [.slice 2 (obs l),.slice 6 (grs G)],.box [.d (.slice 2 (obs l)),.d (.slice 6 (grs G)),.d (.str ri),.d (.str ob)],.none,.none]⟩:=⟨(k+1,g.to),⟨⟨by show k+1≤c.length; omega,hi4⟩,by show c.length - (k+1) < c.length - k; omega⟩,rfl⟩
        refine sd ?_
        refine b_lt (fun t2=>?_) (fun t2=>?_)
        refine ix_at hx1 ?_ ?_
        (show (0:Int)≤(↑k:Int); omega)
        refine ix_at hg1 ?_ ?_
        assumption
        refine b_f h1 ?_
        refine ca c108_ ?_
        refine ar_add ?_ ?_
        refine an ?_ ?_
        (show (-9223372036854775808:Int)≤(↑k:Int)+(1:Int); omega)
        (show (↑k:Int)+(1:Int)≤(9223372036854775807:Int); omega)
        rotate_left
        (exfalso; omega)
        all_goals exact fin
     ·have e:k=c.length:=by omega
      subst e
      rw [List.drop_eq_nil_of_le (Nat.le_refl _)] at hi3
      have hi4:runC ri ob day G ((ownO l ob).getD []) c=some t:=hi3
      rw [hi4]
      have c103c_:=c103 (t != of) 19
      refine sd ?_
      refine b_lt (fun t2=>?_) (fun t2=>?_)
      (exfalso; omega)
      refine ca (c103 _ _) ?_
      exact rfl
end Vc
