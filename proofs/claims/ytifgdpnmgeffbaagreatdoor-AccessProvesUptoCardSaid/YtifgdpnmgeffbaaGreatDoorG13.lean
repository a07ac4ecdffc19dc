import Derived.Test.YtifgdpnmgeffbaaGreatDoorG12
set_option linter.unusedSectionVars false
set_option linter.unusedVariables false
set_option linter.unusedSimpArgs false
set_option maxRecDepth 10000
set_option maxHeartbeats 4000000
namespace Vc
open Go Go.Proofs
theorem findM_names2 (s:List UInt8):∀ l:List (List UInt8),findM (.str s) (l.map fun n=>(.str n,.bool true))=if l.contains s then some (.bool true) else none
 | []=>rfl
 | n::r=>by
  show (match dEq (.str s) (.str n) with | true=>some (Data.bool true) | false=>findM (.str s) (r.map fun n=>(.str n,.bool true)))=_
  rw [List.contains_cons,findM_names2 s r]
  show (match (s==n) with | true=>_ | false=>_)=_
  cases (s==n) <;> simp
theorem putM_names2 (s:List UInt8):∀ l:List (List UInt8),l.contains s=false→putM (.str s) (.bool true) (l.map fun n=>(.str n,.bool true))=(l++[s]).map fun n=>(.str n,.bool true)
 | [],_=>rfl
 | n::r,h=>by
  rw [List.contains_cons,Bool.or_eq_false_iff] at h
  show (match (s==n) with | true=>_ | false=>_)=_
  rw [h.1]
  show (Data.str n,Data.bool true)::putM (.str s) (.bool true) (r.map fun n=>(.str n,.bool true))=_
  rw [putM_names2 s r h.2]; rfl
theorem keys_names2:∀ l:List (List UInt8),keysOk none (l.map fun n=>(.str n,.bool true))=true
 | []=>rfl
 | n::r=>keys_names2 r
def nms (l:List Ob):List (List UInt8):=l.map Prod.fst
theorem nms_snoc {l:List Ob} {k:Nat} {x:Ob} (h:l[k]?=some x):nms (l.take (k+1))=nms (l.take k)++[x.1]:=by unfold nms; rw [take_one h,List.map_append]; rfl
def obX (x:Ob) (seen:List (List UInt8)):Int:=firstOf [nmE x.1,nmE x.2,bif seen.contains x.1 then 9 else 0]
def obE:List Ob→List (List UInt8)→Int
 | [],_=>0
 | x::r,seen=>bif obX x seen != 0 then obX x seen else obE r (seen++[x.1])
def grX (l:List Ob) (g:Gr):Int:=firstOf [nmE g.fr,nmE g.to,nmE g.ri,nmE g.ob,bif g.fr==g.to then 24 else 0,bif !(nms l).contains g.ob then 10 else 0,spanE g.a g.b 100000]
def grE (l:List Ob):List Gr→Int
 | []=>0
 | g::r=>bif grX l g != 0 then grX l g else grE l r
def bookE (l:List Ob) (G:List Gr):Int:=bif decide ((16:Int) < (l.length:Int)) then 5 else bif obE l [] != 0 then obE l [] else bif decide ((32:Int) < (G.length:Int)) then 5 else grE l G
theorem bk_1 {l:List Ob} {G:List Gr} (h:(16:Int) < (l.length:Int)):bookE l G=5:=by unfold bookE; rw [decide_eq_true h]; rfl
theorem bk_2 {l:List Ob} {G:List Gr} (h:¬ (16:Int) < (l.length:Int)) (h2:obE l []≠0):bookE l G=obE l []:=by unfold bookE; rw [decide_eq_false h,bne_iff_ne.2 h2]; rfl
theorem bk_3 {l:List Ob} {G:List Gr} (h:¬ (16:Int) < (l.length:Int)) (h2:obE l []=0) (h3:(32:Int) < (G.length:Int)):bookE l G=5:=by unfold bookE; rw [decide_eq_false h,h2,decide_eq_true h3]; rfl
theorem bk_4 {l:List Ob} {G:List Gr} (h:¬ (16:Int) < (l.length:Int)) (h2:obE l []=0) (h3:¬ (32:Int) < (G.length:Int)):bookE l G=grE l G:=by unfold bookE; rw [decide_eq_false h,h2,decide_eq_false h3]; rfl
theorem fo_nz {a:Int} {r:List Int} (h:a≠0):firstOf (a::r)=a:=by show (bif a != 0 then a else _)=a; rw [bne_iff_ne.2 h]; rfl
theorem fo_z {r:List Int}:firstOf ((0:Int)::r)=firstOf r:=rfl
def jr18:AFun:=⟨105,5,[.tmp 2],
 (.seq
 (.reg [0] [⟨some 1,.cbx 0 2 (.tmp 0),none⟩,
  ⟨some 2,.mov (.cst (.d (.int .i64 0))),none⟩])
 (.seq
  (.seq
  (.reg [] [⟨some 13,.fad 0 (.tmp 1),none⟩,
   ⟨some 14,.ld false 1 (.tmp 13),none⟩,
   ⟨some 15,.len (.tmp 14),none⟩,
   ⟨some 16,.cmp .gtr (.tmp 15) (.cst (.d (.int .i64 16))),none⟩])
  (.cond (.tmp 16)
   (.seq
   (.reg [] [⟨some 2,.mov (.cst (.d (.int .i64 5))),none⟩])
   .ret)
   .skip))
  (.seq
  (.seq
   (.reg [] [⟨some 3,.mov (.cst (.d (.int .i64 0))),none⟩])
   (.post [1] [0,1,2]
   (.block 0
    (.keep [1,3] [0]
    (.loop
     (.post [1,3] [1,2]
     (.seq
      (.seq
      (.reg [] [⟨some 17,.mov (.tmp 3),none⟩,
       ⟨some 18,.fad 0 (.tmp 1),none⟩,
       ⟨some 19,.ld false 1 (.tmp 18),none⟩,
       ⟨some 20,.len (.tmp 19),none⟩,
       ⟨some 21,.cmp .lss (.tmp 17) (.tmp 20),none⟩])
      (.cond (.tmp 21)
       .skip
       (.exit 0)))
      (.seq
      (.block 1
       (.seq
       (.reg [1] [⟨some 24,.fad 0 (.tmp 1),none⟩,
        ⟨some 25,.ld false 1 (.tmp 24),none⟩,
        ⟨some 26,.mov (.tmp 3),none⟩,
        ⟨some 27,.ixa 2 (.tmp 25) (.tmp 26),none⟩,
        ⟨some 28,.ld true 2 (.tmp 27),none⟩,
        ⟨some 4,.alloc 1 [(.d (.str [])),(.d (.str []))],none⟩,
        ⟨none,.st 2 (.tmp 4) (.tmp 28),none⟩])
       (.seq
        (.regd [] [⟨some 30,.fad 0 (.tmp 1),none⟩,
         ⟨some 31,.ld false 1 (.tmp 30),none⟩,
         ⟨some 32,.mov (.tmp 3),none⟩,
         ⟨some 33,.slc 2 (.tmp 31) none (some (.tmp 32)),none⟩,
         ⟨some 34,.fad 0 (.tmp 4),none⟩,
         ⟨some 35,.ld false 1 (.tmp 34),none⟩,
         ⟨some 36,.call 109 [(.tmp 33),(.tmp 35)],none⟩,
         ⟨some 29,.mov (.tmp 36),none⟩,
         ⟨some 37,.ext 0 (.tmp 29),none⟩,
         ⟨some 38,.ext 1 (.tmp 29),none⟩,
         ⟨some 5,.mov (.tmp 37),none⟩,
         ⟨some 6,.mov (.tmp 38),none⟩] [(0,2),(1,2),(0,4),(1,4),(2,4),(3,4),(0,5),(1,5),(2,5),(3,5),(8,9),(9,10)])
        (.seq
        (.regd [2] [⟨some 39,.fad 0 (.tmp 4),none⟩,
         ⟨some 40,.ld false 1 (.tmp 39),none⟩,
         ⟨some 41,.call 111 [(.tmp 40)],none⟩,
         ⟨some 42,.fad 1 (.tmp 4),none⟩,
         ⟨some 43,.ld false 1 (.tmp 42),none⟩,
         ⟨some 44,.call 111 [(.tmp 43)],none⟩,
         ⟨some 45,.mov (.tmp 6),none⟩,
         ⟨some 46,.call 22 [(.tmp 45),(.cst (.d (.int .i64 9)))],none⟩,
         ⟨some 47,.bsl 2 3 1 3 [(.int .i64 0),(.int .i64 0),(.int .i64 0)] [(0,(.tmp 41)),(1,(.tmp 44)),(2,(.tmp 46))],none⟩,
         ⟨some 48,.call 110 [(.tmp 47)],none⟩,
         ⟨some 7,.mov (.tmp 48),none⟩] [(0,3),(1,3),(2,3),(0,4),(1,4),(2,4),(0,6),(1,6),(2,6),(3,6),(4,6),(5,6)])
        (.seq
         (.reg [] [⟨some 49,.mov (.tmp 7),none⟩,
          ⟨some 50,.cmp .neq (.tmp 49) (.cst (.d (.int .i64 0))),none⟩])
         (.cond (.tmp 50)
         (.seq
          (.reg [] [⟨some 51,.mov (.tmp 7),none⟩,
           ⟨some 2,.mov (.tmp 51),none⟩])
          .ret)
         .skip))))))
      (.reg [] [⟨some 22,.mov (.tmp 3),none⟩,
       ⟨some 23,.arith .add .i64 (.tmp 22) (.cst (.d (.int .i64 1))),none⟩,
       ⟨some 3,.mov (.tmp 23),none⟩])))))))))
  (.seq
   (.seq
   (.reg [] [⟨some 52,.fad 1 (.tmp 1),none⟩,
    ⟨some 53,.ld false 1 (.tmp 52),none⟩,
    ⟨some 54,.len (.tmp 53),none⟩,
    ⟨some 55,.cmp .gtr (.tmp 54) (.cst (.d (.int .i64 32))),none⟩])
   (.cond (.tmp 55)
    (.seq
    (.reg [] [⟨some 2,.mov (.cst (.d (.int .i64 5))),none⟩])
    .ret)
    .skip))
   (.seq
   (.seq
    (.reg [] [⟨some 8,.mov (.cst (.d (.int .i64 0))),none⟩])
    (.post [] [0,1,2,3,4]
    (.block 2
     (.keep [1,8] [0,1,2]
     (.loop
      (.post [1,8] [3,4]
      (.seq
       (.seq
       (.reg [] [⟨some 56,.mov (.tmp 8),none⟩,
        ⟨some 57,.fad 1 (.tmp 1),none⟩,
        ⟨some 58,.ld false 1 (.tmp 57),none⟩,
        ⟨some 59,.len (.tmp 58),none⟩,
        ⟨some 60,.cmp .lss (.tmp 56) (.tmp 59),none⟩])
       (.cond (.tmp 60)
        .skip
        (.exit 2)))
       (.seq
       (.block 3
        (.seq
        (.reg [3] [⟨some 63,.fad 1 (.tmp 1),none⟩,
         ⟨some 64,.ld false 1 (.tmp 63),none⟩,
         ⟨some 65,.mov (.tmp 8),none⟩,
         ⟨some 66,.ixa 6 (.tmp 64) (.tmp 65),none⟩,
         ⟨some 67,.ld true 6 (.tmp 66),none⟩,
         ⟨some 9,.alloc 3 [(.d (.str [])),(.d (.str [])),(.d (.str [])),(.d (.str [])),(.d (.int .i64 0)),(.d (.int .i64 0))],none⟩,
         ⟨none,.st 6 (.tmp 9) (.tmp 67),none⟩])
        (.seq
         (.reg [] [⟨some 69,.fad 0 (.tmp 1),none⟩,
          ⟨some 70,.ld false 1 (.tmp 69),none⟩,
          ⟨some 71,.fad 3 (.tmp 9),none⟩,
          ⟨some 72,.ld false 1 (.tmp 71),none⟩,
          ⟨some 73,.call 109 [(.tmp 70),(.tmp 72)],none⟩,
          ⟨some 68,.mov (.tmp 73),none⟩,
          ⟨some 74,.ext 0 (.tmp 68),none⟩,
          ⟨some 75,.ext 1 (.tmp 68),none⟩,
          ⟨some 10,.mov (.tmp 74),none⟩,
          ⟨some 11,.mov (.tmp 75),none⟩])
         (.seq
         (.regd [4] [⟨some 76,.fad 0 (.tmp 9),none⟩,
          ⟨some 77,.ld false 1 (.tmp 76),none⟩,
          ⟨some 78,.call 111 [(.tmp 77)],none⟩,
          ⟨some 79,.fad 1 (.tmp 9),none⟩,
          ⟨some 80,.ld false 1 (.tmp 79),none⟩,
          ⟨some 81,.call 111 [(.tmp 80)],none⟩,
          ⟨some 82,.fad 2 (.tmp 9),none⟩,
          ⟨some 83,.ld false 1 (.tmp 82),none⟩,
          ⟨some 84,.call 111 [(.tmp 83)],none⟩,
          ⟨some 85,.fad 3 (.tmp 9),none⟩,
          ⟨some 86,.ld false 1 (.tmp 85),none⟩,
          ⟨some 87,.call 111 [(.tmp 86)],none⟩,
          ⟨some 88,.fad 0 (.tmp 9),none⟩,
          ⟨some 89,.ld false 1 (.tmp 88),none⟩,
          ⟨some 90,.fad 1 (.tmp 9),none⟩,
          ⟨some 91,.ld false 1 (.tmp 90),none⟩,
          ⟨some 92,.seq false (.tmp 89) (.tmp 91),none⟩,
          ⟨some 93,.call 22 [(.tmp 92),(.cst (.d (.int .i64 24)))],none⟩,
          ⟨some 94,.mov (.tmp 11),none⟩,
          ⟨some 95,.not (.tmp 94),none⟩,
          ⟨some 96,.call 22 [(.tmp 95),(.cst (.d (.int .i64 10)))],none⟩,
          ⟨some 97,.fad 4 (.tmp 9),none⟩,
          ⟨some 98,.ld true 2 (.tmp 97),none⟩,
          ⟨some 99,.call 93 [(.tmp 98),(.cst (.d (.int .i64 100000)))],none⟩,
          ⟨some 100,.bsl 4 3 1 7 [(.int .i64 0),(.int .i64 0),(.int .i64 0),(.int .i64 0),(.int .i64 0),(.int .i64 0),(.int .i64 0)] [(0,(.tmp 78)),(1,(.tmp 81)),(2,(.tmp 84)),(3,(.tmp 87)),(4,(.tmp 93)),(5,(.tmp 96)),(6,(.tmp 99))],none⟩,
          ⟨some 101,.call 110 [(.tmp 100)],none⟩,
          ⟨some 12,.mov (.tmp 101),none⟩] [(0,3),(1,3),(2,3),(0,4),(1,4),(2,4),(0,6),(1,6),(2,6),(3,6),(4,6),(5,6),(0,7),(1,7),(2,7),(3,7),(4,7),(5,7),(0,9),(1,9),(2,9),(3,9),(4,9),(5,9),(6,9),(7,9),(8,9),(0,10),(1,10),(2,10),(3,10),(4,10),(5,10),(6,10),(7,10),(8,10),(0,12),(1,12),(2,12),(3,12),(4,12),(5,12),(6,12),(7,12),(8,12),(9,12),(10,12),(11,12),(0,13),(1,13),(2,13),(3,13),(4,13),(5,13),(6,13),(7,13),(8,13),(9,13),(10,13),(11,13),(0,14),(1,14),(2,14),(3,14),(4,14),(5,14),(6,14),(7,14),(8,14),(9,14),(10,14),(11,14),(12,14),(13,14),(0,15),(1,15),(2,15),(3,15),(4,15),(5,15),(6,15),(7,15),(8,15),(9,15),(10,15),(11,15),(12,15),(13,15),(0,16),(1,16),(2,16),(3,16),(4,16),(5,16),(6,16),(7,16),(8,16),(9,16),(10,16),(11,16),(0,18),(1,18),(2,18),(3,18),(4,18),(5,18),(6,18),(7,18),(8,18),(9,18),(10,18),(11,18),(12,18),(13,18),(14,18),(15,18),(16,18),(17,18),(0,19),(1,19),(2,19),(3,19),(4,19),(5,19),(6,19),(7,19),(8,19),(9,19),(10,19),(11,19),(12,19),(13,19),(14,19),(15,19),(16,19),(17,19),(0,21),(1,21),(2,21),(3,21),(4,21),(5,21),(6,21),(7,21),(8,21),(9,21),(10,21),(11,21),(12,21),(13,21),(14,21),(15,21),(16,21),(17,21),(18,21),(19,21),(20,21),(0,22),(1,22),(2,22),(3,22),(4,22),(5,22),(6,22),(7,22),(8,22),(9,22),(10,22),(11,22),(12,22),(13,22),(14,22),(15,22),(16,22),(17,22),(18,22),(19,22),(20,22)])
         (.seq
          (.reg [] [⟨some 102,.mov (.tmp 12),none⟩,
           ⟨some 103,.cmp .neq (.tmp 102) (.cst (.d (.int .i64 0))),none⟩])
          (.cond (.tmp 103)
          (.seq
           (.reg [] [⟨some 104,.mov (.tmp 12),none⟩,
            ⟨some 2,.mov (.tmp 104),none⟩])
           .ret)
          .skip))))))
       (.reg [] [⟨some 61,.mov (.tmp 8),none⟩,
        ⟨some 62,.arith .add .i64 (.tmp 61) (.cst (.d (.int .i64 1))),none⟩,
        ⟨some 8,.mov (.tmp 62),none⟩])))))))))
   (.seq
    (.reg [] [⟨some 2,.mov (.cst (.d (.int .i64 0))),none⟩])
    .ret))))))⟩
theorem c18 (l:List Ob) (G:List Gr) (hl:l.length≤1048576) (hG:G.length≤1048576):CallDet Tryz.prog 18 [.d (.agg [.slice 2 (obs l),.slice 6 (grs G)])] [.int .i64 (bookE l G)]:=by
 have hlo:=obs_len l
 have hlg:=grs_len G
 refine call_of_vc (x:=jr18) (by kernel_rfl) rfl ?_
 refine sd ?_
 refine b_lt (fun t1=>?_) (fun t1=>?_)
 ·rw [bk_1 (by omega)]
  exact rfl
 have h16:¬ (16:Int) < (l.length:Int):=by have t1:¬ (16:Int) < ((obs l).length:Int):=t1; omega
 refine loop_st (fun k:Nat=>⟨[(1,.ptr 0 0),(3,.d (.int .i64 ((k:Nat))))],[.cbox [.slice 2 (obs l),.slice 6 (grs G)],.none,.none,.none,.none]⟩) (fun k=>k≤l.length∧obE l []=obE (l.drop k) (nms (l.take k))) (fun k=>l.length - k) 0 rfl ⟨Nat.zero_le _,rfl⟩ ?_
 rintro k ⟨hk,hi⟩
 have hk:k≤l.length:=hk
 dsimp only
 by_cases hkn:k < l.length
 ·refine Exists.elim (get_lt l hkn) fun x hx=>?_
  have hx1:=obs_at hx
  rw [drop_at hx,obE] at hi
  have hsl:((obs l).take ((k:Nat):Int).toNat).drop ((0:Int)).toNat=obs (l.take k):=by
   show ((obs l).take k).drop 0=_
   rw [List.drop_zero]; unfold obs; rw [List.map_take]
  have c109_:CallDet Tryz.prog 109 [.d (.slice 2 (((obs l).take ((k:Nat):Int).toNat).drop ((0:Int)).toNat)),.d (.str x.1)] [.str ((ownO (l.take k) x.1).getD []),.bool ((nms (l.take k)).contains x.1)]:=by
   rw [hsl]; unfold nms; rw [← ownO_some]
   exact c109 (l.take k) x.1 (by rw [List.length_take]; omega)
  have c110_:CallDet Tryz.prog 110 [.d (.slice 1 [.int .i64 (bif !(isNm x.1) then 8 else 0),.int .i64 (bif !(isNm x.2) then 8 else 0),.int .i64 (bif (nms (l.take k)).contains x.1 then 9 else 0)])] [.int .i64 (obX x (nms (l.take k)))]:=c110 [nmE x.1,nmE x.2,bif (nms (l.take k)).contains x.1 then 9 else 0] (by simp)
  by_cases h0:obX x (nms (l.take k))=0
  ·rw [h0] at hi c110_
   have hi:obE l []=obE (l.drop (k+1)) (nms (l.take (k+1))):=by rw [nms_snoc hx]; exact hi
   have fin:∃ a':Nat,((a'≤l.length∧obE l []=obE (l.drop a') (nms (l.take a')))∧l.length - a' < l.length - k)∧(⟨[(1,.ptr 0 0),(3,.d (.int .i64 (((k:Int)+1))))],[.cbox [.slice 2 (obs l),.slice 6 (grs G)],.none,.none,.none,.none]⟩:St)=⟨[(1,.ptr 0 0),(3,.d (.int .i64 ((a':Nat))))],[.cbox [.slice 2 (obs l),.slice 6 (grs G)],.none,.none,.none,.none]⟩:=⟨k+1,⟨⟨by omega,hi⟩,by omega⟩,rfl⟩
   refine sd ?_
   refine b_lt (fun t2=>?_) (fun t2=>?_)
   refine ix_at hx1 ?_ ?_
   (show (0:Int)≤(↑k:Int); omega)
   refine an ?_ ?_
   refine an ?_ ?_
   exact rfl
   refine an ?_ ?_
   (show (0:Int)≤(0:Int); omega)
   refine an ?_ ?_
   (show (0:Int)≤(↑k:Int); omega)
   (show (↑k:Int)≤(↑(List.length (obs l)):Int); omega)
   refine ca c109_ ?_
   refine ca (c111 _) ?_
   refine ca (c111 _) ?_
   refine ca (c22 _ _) ?_
   refine sd ?_
   refine sd ?_
   refine ca c110_ ?_
   refine sd ?_
   refine ar_add ?_ ?_
   refine an ?_ ?_
   (show (-9223372036854775808:Int)≤(↑k:Int)+(1:Int); omega)
   (show (↑k:Int)+(1:Int)≤(9223372036854775807:Int); omega)
   rotate_left
   (exfalso; omega)
   all_goals exact fin
  ·have he:obE l []=obX x (nms (l.take k)):=by rw [hi,bne_iff_ne.2 h0]; rfl
   rw [bk_2 h16 (by rw [he]; exact h0),he]
   generalize obX x (nms (l.take k))=E at *
   clear hi he
   refine sd ?_
   refine b_lt (fun t2=>?_) (fun t2=>?_)
   refine ix_at hx1 ?_ ?_
   (show (0:Int)≤(↑k:Int); omega)
   refine an ?_ ?_
   refine an ?_ ?_
   exact rfl
   refine an ?_ ?_
   (show (0:Int)≤(0:Int); omega)
   refine an ?_ ?_
   (show (0:Int)≤(↑k:Int); omega)
   (show (↑k:Int)≤(↑(List.length (obs l)):Int); omega)
   refine ca c109_ ?_
   refine ca (c111 _) ?_
   refine ca (c111 _) ?_
   refine ca (c22 _ _) ?_
   refine sd ?_
   refine sd ?_
   refine ca c110_ ?_
   refine sd ?_
   refine b_ne (fun t3=>?_) (fun t3=>?_)
   exact rfl
   (exfalso; omega)
   (exfalso; omega)
 have e:k=l.length:=by omega
 subst e
 rw [List.drop_eq_nil_of_le (Nat.le_refl _)] at hi
 have hi:obE l []=0:=hi
 by_cases h32:(32:Int) < (G.length:Int)
 ·rw [bk_3 h16 hi h32]
  clear hi
  refine sd ?_
  refine b_lt (fun t2=>?_) (fun t2=>?_)
  (exfalso; omega)
  refine sd ?_
  refine b_lt (fun t3=>?_) (fun t3=>?_)
  exact rfl
  (exfalso; omega)
 rw [bk_4 h16 hi h32]
 clear hi
 refine sd ?_
 refine b_lt (fun t2=>?_) (fun t2=>?_)
 (exfalso; omega)
 refine sd ?_
 refine b_lt (fun t3=>?_) (fun t3=>?_)
 (exfalso; omega)
 rotate_left
 refine loop_st (fun k:Nat=>⟨[(1,.ptr 0 0),(8,.d (.int .i64 ((k:Nat))))],[.cbox [.slice 2 (obs l),.slice 6 (grs G)],.none,.none,.none,.none]⟩) (fun k=>k≤G.length∧grE l G=grE l (G.drop k)) (fun k=>G.length - k) 0 rfl ⟨Nat.zero_le _,rfl⟩ ?_
 rintro k ⟨hk2,hi⟩
 have hk2:k≤G.length:=hk2
 dsimp only
 by_cases hkn:k < G.length
 ·refine Exists.elim (get_lt G hkn) fun x hx=>?_
  have hx1:=grs_at hx
  rw [drop_at hx,grE] at hi
  have c109_:=c109 l x.ob hl
  have ho:(ownO l x.ob).isSome=(nms l).contains x.ob:=ownO_some x.ob l
  rw [ho] at c109_
  have c110_:CallDet Tryz.prog 110 [.d (.slice 1 [.int .i64 (bif !(isNm x.fr) then 8 else 0),.int .i64 (bif !(isNm x.to) then 8 else 0),.int .i64 (bif !(isNm x.ri) then 8 else 0),.int .i64 (bif !(isNm x.ob) then 8 else 0),.int .i64 (bif x.fr==x.to then 24 else 0),.int .i64 (bif !(nms l).contains x.ob then 10 else 0),.int .i64 (spanE x.a x.b 100000)])] [.int .i64 (grX l x)]:=c110 [nmE x.fr,nmE x.to,nmE x.ri,nmE x.ob,bif x.fr==x.to then 24 else 0,bif !(nms l).contains x.ob then 10 else 0,spanE x.a x.b 100000] (by simp)
  have c93_:=c93 x.a x.b 100000
  by_cases h0:grX l x=0
  ·rw [h0] at hi c110_
   have hi:grE l G=grE l (G.drop (k+1)):=hi
   have fin:∃ a':Nat,((a'≤G.length∧grE l G=grE l (G.drop a'))∧G.length - a' < G.length - k)∧(⟨[(1,.ptr 0 0),(8,.d (.int .i64 (((k:Int)+1))))],[.cbox [.slice 2 (obs l),.slice 6 (grs G)],.none,.none,.none,.none]⟩:St)=⟨[(1,.ptr 0 0),(8,.d (.int .i64 ((a':Nat))))],[.cbox [.slice 2 (obs l),.slice 6 (grs G)],.none,.none,.none,.none]⟩:=⟨k+1,⟨⟨by omega,hi⟩,by omega⟩,rfl⟩
   refine sd ?_
   refine b_lt (fun t4=>?_) (fun t4=>?_)
   refine ix_at hx1 ?_ ?_
   (show (0:Int)≤(↑k:Int); omega)
   refine ca c109_ ?_
   refine ca (c111 _) ?_
   refine ca (c111 _) ?_
   refine ca (c111 _) ?_
   refine ca (c111 _) ?_
   refine ca (c22 _ _) ?_
   refine ca (c22 _ _) ?_
   refine ca c93_ ?_
   refine sd ?_
   refine sd ?_
   refine ca c110_ ?_
   refine sd ?_
   refine ar_add ?_ ?_
   refine an ?_ ?_
   (show (-9223372036854775808:Int)≤(↑k:Int)+(1:Int); omega)
   (show (↑k:Int)+(1:Int)≤(9223372036854775807:Int); omega)
   rotate_left
   (exfalso; omega)
   all_goals exact fin
  ·have he:grE l G=grX l x:=by rw [hi,bne_iff_ne.2 h0]; rfl
   rw [he]
   generalize grX l x=E at *
   clear hi he
   refine sd ?_
   refine b_lt (fun t4=>?_) (fun t4=>?_)
   refine ix_at hx1 ?_ ?_
   (show (0:Int)≤(↑k:Int); omega)
   refine ca c109_ ?_
   refine ca (c111 _) ?_
   refine ca (c111 _) ?_
   refine ca (c111 _) ?_
   refine ca (c111 _) ?_
   refine ca (c22 _ _) ?_
   refine ca (c22 _ _) ?_
   refine ca c93_ ?_
   refine sd ?_
   refine sd ?_
   refine ca c110_ ?_
   refine sd ?_
   refine b_ne (fun t5=>?_) (fun t5=>?_)
   exact rfl
   (exfalso; omega)
   (exfalso; omega)
 have e:k=G.length:=by omega
 subst e
 rw [List.drop_eq_nil_of_le (Nat.le_refl _)] at hi
 have hi:grE l G=0:=hi
 rw [hi]
 refine sd ?_
 refine b_lt (fun t4=>?_) (fun t4=>?_)
 (exfalso; omega)
 exact rfl
end Vc
