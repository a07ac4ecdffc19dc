import Derived.Test.YtmffgalmdnpcgaaGreatDoorG13
set_option linter.unusedSectionVars false
set_option linter.unusedVariables false
set_option linter.unusedSimpArgs false
set_option maxRecDepth 10000
set_option maxHeartbeats 4000000
namespace Vc
open Go Go.Proofs
def dayE (n:Int):Int:=within3 n 0 100000
def sinE (n:Int):Int:=within3 n (-364) 100000
def e1E (x:Vr) (k:Int) (p:Vr):Int:=firstOf [dayE x.fr,sinE x.an,bif (bif decide (0 < k) then decide (x.fr≤p.fr)||decide (x.an < p.an) else false) then 11 else 0]
def e2E (no:Int) (x:Vr):Int:=firstOf [bif decide (x.fr < x.an+no) then 35 else 0,tfE x.t]
def vE (no:Int) (x:Vr) (k:Int) (p:Vr):Int:=bif e1E x k p != 0 then e1E x k p else e2E no x
def e0E (no:Int) (l:List Vr):Int:=firstOf [within3 no 0 364,cntE l.length 8]
def calL (no:Int) (l:List Vr):Int:=bif e0E no l != 0 then e0E no l else scE (vE no) l
structure Cal.ok (c:Cal):Prop where
 lv:c.vs.length≤1048576
 lt:∀ x∈c.vs,x.t.ok
theorem e1_ok {x:Vr} {k:Int} {p:Vr} (h:e1E x k p=0):(0≤x.fr∧x.fr≤100000)∧(-364≤x.an∧x.an≤100000):=by
 have h1:=firstOf_zero h
 exact ⟨within_ok (h1 (dayE x.fr) (by simp)),within_ok (h1 (sinE x.an) (by simp))⟩
theorem e0_ok {no:Int} {l:List Vr} (h:e0E no l=0):0≤no∧no≤364:=within_ok (firstOf_zero h _ (by simp))
def jr97:AFun:=⟨5,0,[.tmp 2],
 (.seq
 (.reg [] [⟨some 2,.mov (.cst (.d (.int .i64 0))),none⟩])
 (.seq
  (.reg [] [⟨some 3,.mov (.tmp 0),none⟩,
   ⟨some 4,.call 109 [(.tmp 3),(.cst (.d (.int .i64 0))),(.cst (.d (.int .i64 100000)))],none⟩,
   ⟨some 2,.mov (.tmp 4),none⟩])
  .ret))⟩
def jr110:AFun:=⟨5,0,[.tmp 2],
 (.seq
 (.reg [] [⟨some 2,.mov (.cst (.d (.int .i64 0))),none⟩])
 (.seq
  (.reg [] [⟨some 3,.mov (.tmp 0),none⟩,
   ⟨some 4,.call 109 [(.tmp 3),(.cst (.d (.int .i64 (-364)))),(.cst (.d (.int .i64 100000)))],none⟩,
   ⟨some 2,.mov (.tmp 4),none⟩])
  .ret))⟩
def jr31:AFun:=⟨82,6,[.tmp 2],
 (.seq
 (.reg [0] [⟨some 1,.cbx 0 2 (.tmp 0),none⟩,
  ⟨some 2,.mov (.cst (.d (.int .i64 0))),none⟩])
 (.seq
  (.seq
  (.regd [1] [⟨some 9,.fad 0 (.tmp 1),none⟩,
   ⟨some 10,.ld false 1 (.tmp 9),none⟩,
   ⟨some 11,.call 109 [(.tmp 10),(.cst (.d (.int .i64 0))),(.cst (.d (.int .i64 364)))],none⟩,
   ⟨some 12,.fad 1 (.tmp 1),none⟩,
   ⟨some 13,.ld false 1 (.tmp 12),none⟩,
   ⟨some 14,.len (.tmp 13),none⟩,
   ⟨some 15,.call 99 [(.tmp 14),(.cst (.d (.int .i64 8)))],none⟩,
   ⟨some 16,.bsl 1 34 1 2 [(.int .i64 0),(.int .i64 0)] [(0,(.tmp 11)),(1,(.tmp 15))],none⟩,
   ⟨some 17,.call 96 [(.tmp 16)],none⟩,
   ⟨some 3,.mov (.tmp 17),none⟩] [(0,3),(1,3),(2,3),(0,4),(1,4),(2,4),(0,5),(1,5),(2,5)])
  (.seq
   (.reg [] [⟨some 18,.mov (.tmp 3),none⟩,
    ⟨some 19,.cmp .neq (.tmp 18) (.cst (.d (.int .i64 0))),none⟩])
   (.cond (.tmp 19)
   (.seq
    (.reg [] [⟨some 20,.mov (.tmp 3),none⟩,
     ⟨some 2,.mov (.tmp 20),none⟩])
    .ret)
   .skip)))
  (.seq
  (.seq
   (.reg [] [⟨some 21,.fad 1 (.tmp 1),none⟩,
    ⟨some 22,.ld false 1 (.tmp 21),none⟩,
    ⟨some 23,.len (.tmp 22),none⟩,
    ⟨some 24,.mov (.cst (.d (.int .i64 0))),none⟩])
   (.post [] [0,1,2,3,4,5]
   (.block 0
    (.keep [1,22,23,24] [0,1]
    (.loop
     (.post [1,22,23,24] [2,3,4,5]
     (.seq
      (.reg [] [⟨some 25,.cmp .lss (.tmp 24) (.tmp 23),none⟩])
      (.seq
      (.cond (.tmp 25)
       .skip
       (.exit 0))
      (.seq
       (.block 1
       (.seq
        (.reg [2] [⟨some 26,.mov (.tmp 24),none⟩,
         ⟨some 27,.ixa 6 (.tmp 22) (.tmp 24),none⟩,
         ⟨some 28,.ld true 6 (.tmp 27),none⟩,
         ⟨some 5,.alloc 2 [(.d (.int .i64 0)),(.d (.int .i64 0)),(.nils 1),(.nils 1),(.nils 8),(.nils 2)],none⟩,
         ⟨some 4,.mov (.tmp 26),none⟩,
         ⟨none,.st 6 (.tmp 5) (.tmp 28),none⟩])
        (.seq
        (.reg [3] [⟨some 29,.fad 1 (.tmp 1),none⟩,
         ⟨some 30,.ld false 1 (.tmp 29),none⟩,
         ⟨some 31,.mov (.tmp 4),none⟩,
         ⟨some 32,.arith .sub .i64 (.tmp 31) (.cst (.d (.int .i64 1))),none⟩,
         ⟨some 33,.maxi (.cst (.d (.int .i64 0))) (.tmp 32),none⟩,
         ⟨some 34,.ixa 6 (.tmp 30) (.tmp 33),none⟩,
         ⟨some 35,.ld true 6 (.tmp 34),none⟩,
         ⟨some 6,.alloc 3 [(.d (.int .i64 0)),(.d (.int .i64 0)),(.nils 1),(.nils 1),(.nils 8),(.nils 2)],none⟩,
         ⟨none,.st 6 (.tmp 6) (.tmp 35),none⟩])
        (.seq
         (.seq
         (.regd [4] [⟨some 36,.fad 0 (.tmp 5),none⟩,
          ⟨some 37,.ld false 1 (.tmp 36),none⟩,
          ⟨some 38,.call 97 [(.tmp 37)],none⟩,
          ⟨some 39,.fad 1 (.tmp 5),none⟩,
          ⟨some 40,.ld false 1 (.tmp 39),none⟩,
          ⟨some 41,.call 110 [(.tmp 40)],none⟩,
          ⟨some 42,.mov (.tmp 4),none⟩,
          ⟨some 43,.cmp .gtr (.tmp 42) (.cst (.d (.int .i64 0))),none⟩,
          ⟨some 44,.mov (.tmp 43),none⟩,
          ⟨some 45,.fad 0 (.tmp 5),some (44,true)⟩,
          ⟨some 46,.ld false 1 (.tmp 45),some (44,true)⟩,
          ⟨some 47,.fad 0 (.tmp 6),some (44,true)⟩,
          ⟨some 48,.ld false 1 (.tmp 47),some (44,true)⟩,
          ⟨some 49,.cmp .leq (.tmp 46) (.tmp 48),some (44,true)⟩,
          ⟨some 50,.mov (.tmp 49),some (44,true)⟩,
          ⟨some 51,.fad 1 (.tmp 5),some (50,false)⟩,
          ⟨some 52,.ld false 1 (.tmp 51),some (50,false)⟩,
          ⟨some 53,.fad 1 (.tmp 6),some (50,false)⟩,
          ⟨some 54,.ld false 1 (.tmp 53),some (50,false)⟩,
          ⟨some 55,.cmp .lss (.tmp 52) (.tmp 54),some (50,false)⟩,
          ⟨some 56,.pick (.tmp 50) (.cst (.d (.bool true))) (.tmp 55),some (44,true)⟩,
          ⟨some 57,.pick (.tmp 44) (.tmp 56) (.cst (.d (.bool false))),none⟩,
          ⟨some 58,.call 111 [(.tmp 57),(.cst (.d (.int .i64 11)))],none⟩,
          ⟨some 59,.bsl 4 34 1 3 [(.int .i64 0),(.int .i64 0),(.int .i64 0)] [(0,(.tmp 38)),(1,(.tmp 41)),(2,(.tmp 58))],none⟩,
          ⟨some 60,.call 96 [(.tmp 59)],none⟩,
          ⟨some 7,.mov (.tmp 60),none⟩] [(0,3),(1,3),(2,3),(0,4),(1,4),(2,4),(0,6),(1,6),(2,6),(3,6),(4,6),(5,6),(0,7),(1,7),(2,7),(3,7),(4,7),(5,7),(9,11),(10,11),(9,12),(10,12),(15,17),(16,17),(15,18),(16,18)])
         (.seq
          (.reg [] [⟨some 61,.mov (.tmp 7),none⟩,
           ⟨some 62,.cmp .neq (.tmp 61) (.cst (.d (.int .i64 0))),none⟩])
          (.cond (.tmp 62)
          (.seq
           (.reg [] [⟨some 63,.mov (.tmp 7),none⟩,
            ⟨some 2,.mov (.tmp 63),none⟩])
           .ret)
          .skip)))
         (.seq
         (.regd [5] [⟨some 64,.fad 0 (.tmp 5),none⟩,
          ⟨some 65,.ld false 1 (.tmp 64),none⟩,
          ⟨some 66,.fad 1 (.tmp 5),none⟩,
          ⟨some 67,.ld false 1 (.tmp 66),none⟩,
          ⟨some 68,.fad 0 (.tmp 1),none⟩,
          ⟨some 69,.ld false 1 (.tmp 68),none⟩,
          ⟨some 70,.arith .add .i64 (.tmp 67) (.tmp 69),none⟩,
          ⟨some 71,.cmp .lss (.tmp 65) (.tmp 70),none⟩,
          ⟨some 72,.call 111 [(.tmp 71),(.cst (.d (.int .i64 35)))],none⟩,
          ⟨some 73,.fad 2 (.tmp 5),none⟩,
          ⟨some 74,.ld true 4 (.tmp 73),none⟩,
          ⟨some 75,.call 28 [(.tmp 74)],none⟩,
          ⟨some 76,.bsl 5 34 1 2 [(.int .i64 0),(.int .i64 0)] [(0,(.tmp 72)),(1,(.tmp 75))],none⟩,
          ⟨some 77,.call 96 [(.tmp 76)],none⟩,
          ⟨some 8,.mov (.tmp 77),none⟩] [(0,2),(1,2),(0,3),(1,3),(0,4),(1,4),(2,4),(3,4),(0,5),(1,5),(2,5),(3,5),(0,6),(1,6),(0,9),(1,9),(2,9),(3,9),(4,9),(5,9),(6,9),(7,9),(8,9),(0,10),(1,10),(2,10),(3,10),(4,10),(5,10),(6,10),(7,10),(8,10)])
         (.seq
          (.reg [] [⟨some 78,.mov (.tmp 8),none⟩,
           ⟨some 79,.cmp .neq (.tmp 78) (.cst (.d (.int .i64 0))),none⟩])
          (.cond (.tmp 79)
          (.seq
           (.reg [] [⟨some 80,.mov (.tmp 8),none⟩,
            ⟨some 2,.mov (.tmp 80),none⟩])
           .ret)
          .skip)))))))
       (.reg [] [⟨some 81,.arith .add .i64 (.tmp 24) (.cst (.d (.int .i64 1))),none⟩,
        ⟨some 24,.mov (.tmp 81),none⟩]))))))))))
  (.seq
   (.reg [] [⟨some 2,.mov (.cst (.d (.int .i64 0))),none⟩])
   .ret))))⟩
theorem c97 (n:Int):CallDet Tryz.prog 97 [.d (.int .i64 n)] [.int .i64 (dayE n)]:=by
 have c109_:=c109 n 0 100000
 refine call_of_vc (x:=jr97) (by kernel_rfl) rfl ?_
 refine ca c109_ ?_
 exact rfl
theorem c110 (n:Int):CallDet Tryz.prog 110 [.d (.int .i64 n)] [.int .i64 (sinE n)]:=by
 have c109_:=c109 n (-364) 100000
 refine call_of_vc (x:=jr110) (by kernel_rfl) rfl ?_
 refine ca c109_ ?_
 exact rfl
theorem c31' (no:Int) (l:List Vr) (hl:l.length≤1048576) (hr:∀ x∈l,x.t.ok):CallDet Tryz.prog 31 [.d (.agg [.int .i64 no,.slice 6 (vrs l)])] [.int .i64 (calL no l)]:=by
 have hlen:=vrs_len l
 have c109_:=c109 no 0 364
 have c99_:=c99 (l.length:Nat) 8
 have c96_:CallDet Tryz.prog 96 [.d (.slice 1 [.int .i64 (within3 no 0 364),.int .i64 (cntE l.length 8)])] [.int .i64 (e0E no l)]:=c96 [within3 no 0 364,cntE l.length 8] (by simp)
 rw [← hlen] at c99_ c96_
 refine call_of_vc (x:=jr31) (by kernel_rfl) rfl ?_
 refine ca c109_ ?_
 refine ca c99_ ?_
 refine sd ?_
 refine sd ?_
 refine ca c96_ ?_
 refine sd ?_
 refine b_ne (fun t1=>?_) (fun t1=>?_)
 rotate_left
 rotate_left
 ·exact res_c (by unfold calL; rw [bne_t t1]; rfl)
 have hE:calL no l=scE (vE no) l:=by
  unfold calL; rw [t1]; rfl
 have hno:=e0_ok t1
 refine loop_st (fun k:Nat=>⟨[(1,.ptr 0 0),(22,.d (.slice 6 (vrs l))),(23,.d (.int .i64 (((vrs l).length:Nat):Int))),(24,.d (.int .i64 (k:Int)))],[.cbox [.int .i64 no,.slice 6 (vrs l)],.none,.none,.none,.none,.none]⟩) (fun k=>k≤l.length∧scanE (gE (vE no) l) (l.length - k) k=scE (vE no) l) (fun k=>l.length - k) 0 rfl ⟨Nat.zero_le _,rfl⟩ ?_
 rintro k ⟨hk,hI⟩
 dsimp only
 by_cases hkn:k < l.length
 ·refine Exists.elim (get_lt l hkn) fun x hx=>?_
  refine Exists.elim (prev_at hkn) fun p hp=>?_
  have hp2:l[k - 1]?=some p:=by rw [← hp]; congr 1; omega
  have hp3:l[((k:Int) - 1).toNat]?=some p:=by rw [← hp2]; congr 1; omega
  have hg:=gE_at (vE no) hx hp2
  have hit:(vE no) x k p≠0→resV [.int .i64 ((vE no) x k p)]=resV [.int .i64 (calL no l)]:=fun t=>res_c ((hE.trans (scan_hit hI hkn hg t)).symm)
  have fin:(vE no) x k p=0→∃ a':Nat,((a'≤l.length∧scanE (gE (vE no) l) (l.length - a') a'=scE (vE no) l)∧l.length - a' < l.length - k)∧(⟨[(1,.ptr 0 0),(22,.d (.slice 6 (vrs l))),(23,.d (.int .i64 (((vrs l).length:Nat):Int))),(24,.d (.int .i64 ((k:Int)+1)))],[.cbox [.int .i64 no,.slice 6 (vrs l)],.none,.none,.none,.none,.none]⟩:St)=⟨[(1,.ptr 0 0),(22,.d (.slice 6 (vrs l))),(23,.d (.int .i64 (((vrs l).length:Nat):Int))),(24,.d (.int .i64 (a':Int)))],[.cbox [.int .i64 no,.slice 6 (vrs l)],.none,.none,.none,.none,.none]⟩:=fun t=>⟨k+1,⟨⟨by omega,scan_go hI hkn hg t⟩,by omega⟩,rfl⟩
  have hx1:=vrs_at hx
  have hp1:(vrs l)[(max (0:Int) ((k:Int) - 1)).toNat]?=some (.agg [.int .i64 p.fr,.int .i64 p.an,.slice 1 (ints p.t.p),.slice 1 (tys p.t.t),.slice 8 (seas p.t.s),.slice 2 (sws p.t.b)]):=by unfold vrs; rw [List.getElem?_map,hp]; rfl
  have c97_:=c97 x.fr
  have c110_:=c110 x.an
  have c28_:CallDet Tryz.prog 28 [.d (.agg [.slice 1 (ints x.t.p),.slice 1 (tys x.t.t),.slice 8 (seas x.t.s),.slice 2 (sws x.t.b)])] _:=c28 x.t (hr x (List.mem_of_getElem? hx))
  have c111_2:=c111 (decide (x.fr < x.an+no)) 35
  have c96_2:CallDet Tryz.prog 96 [.d (.slice 1 [.int .i64 (bif decide (x.fr < x.an+no) then 35 else 0),.int .i64 (tfE x.t)])] [.int .i64 (e2E no x)]:=c96 [bif decide (x.fr < x.an+no) then 35 else 0,tfE x.t] (by simp)
  have hb:=e1_ok (x:=x) (k:=k) (p:=p)
  have hv:vE no x k p=bif e1E x k p != 0 then e1E x k p else e2E no x:=rfl
  by_cases h2:(0:Int) < k
  ·by_cases h3:x.fr≤p.fr
   ·have e:e1E x k p=firstOf [dayE x.fr,sinE x.an,11]:=by unfold e1E; rw [decide_eq_true h2,decide_eq_true h3]; rfl
    have c111_1:=c111 true 11
    have c96_1:CallDet Tryz.prog 96 [.d (.slice 1 (ints [dayE x.fr,sinE x.an,11]))] [.int .i64 (firstOf [dayE x.fr,sinE x.an,11])]:=c96 _ (by simp)
    unfold ints at c96_1
    rw [← e] at c96_1
    generalize he:e1E x k p=w at *
    refine sd ?_
    refine b_lt (fun t2=>?_) (fun t2=>?_)
    refine ix_at hx1 ?_ ?_
    (show (0:Int)≤(↑k:Int); omega)
    refine ar_sub ?_ ?_
    refine an ?_ ?_
    (show (-9223372036854775808:Int)≤(↑k:Int) - (1:Int); omega)
    (show (↑k:Int) - (1:Int)≤(9223372036854775807:Int); omega)
    refine sd ?_
    refine ix_at hp1 ?_ ?_
    (show (0:Int)≤max (0:Int) ((↑k:Int) - (1:Int)); omega)
    refine ca c97_ ?_
    refine ca c110_ ?_
    refine sd ?_
    refine b_lt (fun t3=>?_) (fun t3=>?_)
    refine sd ?_
    refine b_le (fun t4=>?_) (fun t4=>?_)
    refine sd ?_
    refine ca c111_1 ?_
    refine sd ?_
    refine sd ?_
    refine ca c96_1 ?_
    refine sd ?_
    refine b_ne (fun t5=>?_) (fun t5=>?_)
    rotate_left
    refine ar_add ?_ ?_
    refine an ?_ ?_
    (show (-9223372036854775808:Int)≤Vr.an x+no; omega)
    (show Vr.an x+no≤(9223372036854775807:Int); omega)
    refine sd ?_
    refine ca c111_2 ?_
    refine ca c28_ ?_
    refine sd ?_
    refine sd ?_
    refine ca c96_2 ?_
    refine sd ?_
    refine b_ne (fun t6=>?_) (fun t6=>?_)
    rotate_left
    refine ar_add ?_ ?_
    refine an ?_ ?_
    (show (-9223372036854775808:Int)≤(↑k:Int)+(1:Int); omega)
    (show (↑k:Int)+(1:Int)≤(9223372036854775807:Int); omega)
    rotate_left
    (exfalso; omega)
    (exfalso; omega)
    (exfalso; omega)
    ·have e3:vE no x k p=w:=by rw [hv,bne_t t5]; rfl
     rw [← e3]; exact hit (by rw [e3]; exact t5)
    ·have e3:vE no x k p=e2E no x:=by rw [hv,t5]; rfl
     rw [← e3]; exact hit (by rw [e3]; exact t6)
    ·exact fin (by rw [hv,t5]; exact t6)
   ·have e:e1E x k p=firstOf [dayE x.fr,sinE x.an,bif decide (x.an < p.an) then 11 else 0]:=by unfold e1E; rw [decide_eq_true h2,decide_eq_false h3]; rfl
    have c111_1:=c111 (decide (x.an < p.an)) 11
    have c96_1:CallDet Tryz.prog 96 [.d (.slice 1 (ints [dayE x.fr,sinE x.an,bif decide (x.an < p.an) then 11 else 0]))] [.int .i64 (firstOf [dayE x.fr,sinE x.an,bif decide (x.an < p.an) then 11 else 0])]:=c96 _ (by simp)
    unfold ints at c96_1
    rw [← e] at c96_1
    generalize he:e1E x k p=w at *
    refine sd ?_
    refine b_lt (fun t2=>?_) (fun t2=>?_)
    refine ix_at hx1 ?_ ?_
    (show (0:Int)≤(↑k:Int); omega)
    refine ar_sub ?_ ?_
    refine an ?_ ?_
    (show (-9223372036854775808:Int)≤(↑k:Int) - (1:Int); omega)
    (show (↑k:Int) - (1:Int)≤(9223372036854775807:Int); omega)
    refine sd ?_
    refine ix_at hp1 ?_ ?_
    (show (0:Int)≤max (0:Int) ((↑k:Int) - (1:Int)); omega)
    refine ca c97_ ?_
    refine ca c110_ ?_
    refine sd ?_
    refine b_lt (fun t3=>?_) (fun t3=>?_)
    refine sd ?_
    refine b_le (fun t4=>?_) (fun t4=>?_)
    (exfalso; omega)
    refine sd ?_
    refine ca c111_1 ?_
    refine sd ?_
    refine sd ?_
    refine ca c96_1 ?_
    refine sd ?_
    refine b_ne (fun t5=>?_) (fun t5=>?_)
    rotate_left
    refine ar_add ?_ ?_
    refine an ?_ ?_
    (show (-9223372036854775808:Int)≤Vr.an x+no; omega)
    (show Vr.an x+no≤(9223372036854775807:Int); omega)
    refine sd ?_
    refine ca c111_2 ?_
    refine ca c28_ ?_
    refine sd ?_
    refine sd ?_
    refine ca c96_2 ?_
    refine sd ?_
    refine b_ne (fun t6=>?_) (fun t6=>?_)
    rotate_left
    refine ar_add ?_ ?_
    refine an ?_ ?_
    (show (-9223372036854775808:Int)≤(↑k:Int)+(1:Int); omega)
    (show (↑k:Int)+(1:Int)≤(9223372036854775807:Int); omega)
    rotate_left
    (exfalso; omega)
    (exfalso; omega)
    ·have e3:vE no x k p=w:=by rw [hv,bne_t t5]; rfl
     rw [← e3]; exact hit (by rw [e3]; exact t5)
    ·have e3:vE no x k p=e2E no x:=by rw [hv,t5]; rfl
     rw [← e3]; exact hit (by rw [e3]; exact t6)
    ·exact fin (by rw [hv,t5]; exact t6)
  ·have e:e1E x k p=firstOf [dayE x.fr,sinE x.an,bif false then 11 else 0]:=by unfold e1E; rw [decide_eq_false h2,cond_false]
   have c111_1:=c111 false 11
   have c96_1:CallDet Tryz.prog 96 [.d (.slice 1 (ints [dayE x.fr,sinE x.an,bif false then 11 else 0]))] [.int .i64 (firstOf [dayE x.fr,sinE x.an,bif false then 11 else 0])]:=c96 _ (by simp)
   unfold ints at c96_1
   rw [← e] at c96_1
   generalize he:e1E x k p=w at *
   refine sd ?_
   refine b_lt (fun t2=>?_) (fun t2=>?_)
   refine ix_at hx1 ?_ ?_
   (show (0:Int)≤(↑k:Int); omega)
   refine ar_sub ?_ ?_
   refine an ?_ ?_
   (show (-9223372036854775808:Int)≤(↑k:Int) - (1:Int); omega)
   (show (↑k:Int) - (1:Int)≤(9223372036854775807:Int); omega)
   refine sd ?_
   refine ix_at hp1 ?_ ?_
   (show (0:Int)≤max (0:Int) ((↑k:Int) - (1:Int)); omega)
   refine ca c97_ ?_
   refine ca c110_ ?_
   refine sd ?_
   refine b_lt (fun t3=>?_) (fun t3=>?_)
   (exfalso; omega)
   refine sd ?_
   refine ca c111_1 ?_
   refine sd ?_
   refine sd ?_
   refine ca c96_1 ?_
   refine sd ?_
   refine b_ne (fun t4=>?_) (fun t4=>?_)
   rotate_left
   refine ar_add ?_ ?_
   refine an ?_ ?_
   (show (-9223372036854775808:Int)≤Vr.an x+no; omega)
   (show Vr.an x+no≤(9223372036854775807:Int); omega)
   refine sd ?_
   refine ca c111_2 ?_
   refine ca c28_ ?_
   refine sd ?_
   refine sd ?_
   refine ca c96_2 ?_
   refine sd ?_
   refine b_ne (fun t5=>?_) (fun t5=>?_)
   rotate_left
   refine ar_add ?_ ?_
   refine an ?_ ?_
   (show (-9223372036854775808:Int)≤(↑k:Int)+(1:Int); omega)
   (show (↑k:Int)+(1:Int)≤(9223372036854775807:Int); omega)
   rotate_left
   (exfalso; omega)
   ·have e3:vE no x k p=w:=by rw [hv,bne_t t4]; rfl
    rw [← e3]; exact hit (by rw [e3]; exact t4)
   ·have e3:vE no x k p=e2E no x:=by rw [hv,t4]; rfl
    rw [← e3]; exact hit (by rw [e3]; exact t5)
   ·exact fin (by rw [hv,t4]; exact t5)
 ·have e:k=l.length:=by omega
  subst e
  refine sd ?_
  refine b_lt (fun t2=>?_) (fun t2=>?_)
  (exfalso; omega)
  rotate_left
  exact res_c ((hE.trans (scan_end hI)).symm)
end Vc
