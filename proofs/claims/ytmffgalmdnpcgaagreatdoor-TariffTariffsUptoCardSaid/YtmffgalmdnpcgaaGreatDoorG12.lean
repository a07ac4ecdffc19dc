import Derived.Test.YtmffgalmdnpcgaaGreatDoorG11
set_option linter.unusedSectionVars false
set_option linter.unusedVariables false
set_option linter.unusedSimpArgs false
set_option maxRecDepth 10000
set_option maxHeartbeats 4000000
namespace Vc
open Go Go.Proofs
def ixF {α:Type} (p:α→Bool):List α→Int→Int
 | [],_=>-1
 | x::r,k=>bif p x then k else ixF p r (k+1)
theorem ixF_ge {α:Type} (p:α→Bool):∀ (l:List α) (k:Int),0≤k→decide (0≤ixF p l k)=l.any p
 | [],k,_=>rfl
 | x::r,k,h=>by
  rw [ixF,List.any_cons]
  cases p x
  ·exact ixF_ge p r (k+1) (by omega)
  ·exact decide_eq_true h
def blE (x:Int × Int) (i:Int) (p:Int × Int):Int:=firstOf [within3 x.1 1 100000000,within3 x.2 (-100000) 100000,bif (bif decide (0 < i) then decide (x.1≤p.1) else false) then 11 else 0]
def blsE (l:List (Int × Int)):Int:=bif decide (4 < (l.length:Int)) then 5 else scE blE l
def jr106:AFun:=⟨43,2,[.tmp 2],
 (.seq
 (.reg [] [⟨some 2,.mov (.cst (.d (.int .i64 0))),none⟩])
 (.seq
  (.seq
  (.reg [] [⟨some 6,.mov (.tmp 0),none⟩,
   ⟨some 7,.len (.tmp 6),none⟩,
   ⟨some 8,.cmp .gtr (.tmp 7) (.cst (.d (.int .i64 4))),none⟩])
  (.cond (.tmp 8)
   (.seq
   (.reg [] [⟨some 2,.mov (.cst (.d (.int .i64 5))),none⟩])
   .ret)
   .skip))
  (.seq
  (.seq
   (.reg [] [⟨some 9,.mov (.tmp 0),none⟩,
    ⟨some 10,.len (.tmp 9),none⟩,
    ⟨some 11,.mov (.cst (.d (.int .i64 0))),none⟩])
   (.post [] [0,1]
   (.block 0
    (.keep [0,9,10,11] []
    (.loop
     (.post [0,9,10,11] [0,1]
     (.seq
      (.reg [] [⟨some 12,.cmp .lss (.tmp 11) (.tmp 10),none⟩])
      (.seq
      (.cond (.tmp 12)
       .skip
       (.exit 0))
      (.seq
       (.block 1
       (.seq
        (.reg [0] [⟨some 13,.mov (.tmp 11),none⟩,
         ⟨some 14,.ixa 2 (.tmp 9) (.tmp 11),none⟩,
         ⟨some 15,.ld true 2 (.tmp 14),none⟩,
         ⟨some 4,.alloc 0 [(.d (.int .i64 0)),(.d (.int .i64 0))],none⟩,
         ⟨some 3,.mov (.tmp 13),none⟩,
         ⟨none,.st 2 (.tmp 4) (.tmp 15),none⟩])
        (.seq
        (.regd [1] [⟨some 16,.fad 0 (.tmp 4),none⟩,
         ⟨some 17,.ld false 1 (.tmp 16),none⟩,
         ⟨some 18,.call 109 [(.tmp 17),(.cst (.d (.int .i64 1))),(.cst (.d (.int .i64 100000000)))],none⟩,
         ⟨some 19,.fad 1 (.tmp 4),none⟩,
         ⟨some 20,.ld false 1 (.tmp 19),none⟩,
         ⟨some 21,.call 109 [(.tmp 20),(.cst (.d (.int .i64 (-100000)))),(.cst (.d (.int .i64 100000)))],none⟩,
         ⟨some 22,.mov (.tmp 3),none⟩,
         ⟨some 23,.cmp .gtr (.tmp 22) (.cst (.d (.int .i64 0))),none⟩,
         ⟨some 24,.mov (.tmp 23),none⟩,
         ⟨some 25,.fad 0 (.tmp 4),some (24,true)⟩,
         ⟨some 26,.ld false 1 (.tmp 25),some (24,true)⟩,
         ⟨some 27,.mov (.tmp 0),some (24,true)⟩,
         ⟨some 28,.mov (.tmp 3),some (24,true)⟩,
         ⟨some 29,.arith .sub .i64 (.tmp 28) (.cst (.d (.int .i64 1))),some (24,true)⟩,
         ⟨some 30,.maxi (.cst (.d (.int .i64 0))) (.tmp 29),some (24,true)⟩,
         ⟨some 31,.ixa 2 (.tmp 27) (.tmp 30),some (24,true)⟩,
         ⟨some 32,.fad 0 (.tmp 31),some (24,true)⟩,
         ⟨some 33,.ld false 1 (.tmp 32),some (24,true)⟩,
         ⟨some 34,.cmp .leq (.tmp 26) (.tmp 33),some (24,true)⟩,
         ⟨some 35,.pick (.tmp 24) (.tmp 34) (.cst (.d (.bool false))),none⟩,
         ⟨some 36,.call 111 [(.tmp 35),(.cst (.d (.int .i64 11)))],none⟩,
         ⟨some 37,.bsl 1 34 1 3 [(.int .i64 0),(.int .i64 0),(.int .i64 0)] [(0,(.tmp 18)),(1,(.tmp 21)),(2,(.tmp 36))],none⟩,
         ⟨some 38,.call 96 [(.tmp 37)],none⟩,
         ⟨some 5,.mov (.tmp 38),none⟩] [(0,3),(1,3),(2,3),(0,4),(1,4),(2,4),(0,6),(1,6),(2,6),(3,6),(4,6),(5,6),(0,7),(1,7),(2,7),(3,7),(4,7),(5,7),(9,11),(10,11),(9,12),(10,12),(11,12),(9,13),(10,13),(11,13),(9,14),(10,14),(11,14),(9,15),(10,15),(9,16),(10,16),(9,17),(10,17)])
        (.seq
         (.reg [] [⟨some 39,.mov (.tmp 5),none⟩,
          ⟨some 40,.cmp .neq (.tmp 39) (.cst (.d (.int .i64 0))),none⟩])
         (.cond (.tmp 40)
         (.seq
          (.reg [] [⟨some 41,.mov (.tmp 5),none⟩,
           ⟨some 2,.mov (.tmp 41),none⟩])
          .ret)
         .skip)))))
       (.reg [] [⟨some 42,.arith .add .i64 (.tmp 11) (.cst (.d (.int .i64 1))),none⟩,
        ⟨some 11,.mov (.tmp 42),none⟩]))))))))))
  (.seq
   (.reg [] [⟨some 2,.mov (.cst (.d (.int .i64 0))),none⟩])
   .ret))))⟩
def jr103:AFun:=⟨9,0,[.tmp 3],
 (.seq
 (.reg [] [⟨some 3,.mov (.cst (.d (.int .i64 0))),none⟩])
 (.seq
  (.reg [] [⟨some 4,.mov (.tmp 0),none⟩,
   ⟨some 5,.fad 0 (.tmp 1),none⟩,
   ⟨some 6,.ld false 1 (.tmp 5),none⟩,
   ⟨some 7,.len (.tmp 6),none⟩,
   ⟨some 8,.call 104 [(.tmp 4),(.tmp 7)],none⟩,
   ⟨some 3,.mov (.tmp 8),none⟩])
  .ret))⟩
def jr102:AFun:=⟨22,2,[.tmp 4],
 (.seq
 (.reg [] [⟨some 4,.mov (.cst (.nils 1)),none⟩])
 (.seq
  (.reg [] [⟨some 5,.mov (.cst (.nils 1)),none⟩])
  (.seq
  (.seq
   (.reg [] [⟨some 8,.mov (.tmp 0),none⟩,
    ⟨some 9,.len (.tmp 8),none⟩,
    ⟨some 10,.mov (.cst (.d (.int .i64 0))),none⟩])
   (.post [5] [0,1]
   (.block 0
    (.asrow 1 34 1 5
    (.keep [1,5,8,9,10] []
     (.loop
     (.post [1,5,8,9,10] [0,1]
      (.seq
      (.reg [] [⟨some 11,.cmp .lss (.tmp 10) (.tmp 9),none⟩])
      (.seq
       (.cond (.tmp 11)
       .skip
       (.exit 0))
       (.seq
       (.block 1
        (.seq
        (.reg [] [⟨some 12,.ixa 1 (.tmp 8) (.tmp 10),none⟩,
         ⟨some 13,.ld false 1 (.tmp 12),none⟩,
         ⟨some 7,.mov (.tmp 13),none⟩])
        (.reg [0,1] [⟨some 14,.mov (.tmp 5),none⟩,
         ⟨some 15,.mov (.tmp 1),none⟩,
         ⟨some 16,.mov (.tmp 7),none⟩,
         ⟨some 17,.callv (.tmp 15) [(.tmp 16)],none⟩,
         ⟨some 18,.bsl 0 34 1 1 [(.int .i64 0)] [(0,(.tmp 17))],none⟩,
         ⟨some 19,.app 1 34 1 8 (.tmp 14) (.tmp 18),none⟩,
         ⟨some 5,.mov (.tmp 19),none⟩])))
       (.reg [] [⟨some 20,.arith .add .i64 (.tmp 10) (.cst (.d (.int .i64 1))),none⟩,
        ⟨some 10,.mov (.tmp 20),none⟩])))))))))))
  (.seq
   (.reg [] [⟨some 21,.mov (.tmp 5),none⟩,
    ⟨some 4,.mov (.tmp 21),none⟩])
   .ret))))⟩
def jr165:AFun:=⟨11,0,[.tmp 3],
 (.seq
 (.reg [] [⟨some 3,.mov (.cst (.d (.bool false))),none⟩])
 (.seq
  (.reg [] [⟨some 4,.mov (.tmp 0),none⟩,
   ⟨some 5,.cmp .lss (.tmp 4) (.cst (.d (.int .i64 0))),none⟩,
   ⟨some 6,.mov (.tmp 5),none⟩,
   ⟨some 7,.mov (.tmp 0),some (6,false)⟩,
   ⟨some 8,.ld false 1 (.tmp 1),some (6,false)⟩,
   ⟨some 9,.cmp .geq (.tmp 7) (.tmp 8),some (6,false)⟩,
   ⟨some 10,.pick (.tmp 6) (.cst (.d (.bool true))) (.tmp 9),none⟩,
   ⟨some 3,.mov (.tmp 10),none⟩])
  .ret))⟩
def jr212:AFun:=⟨19,0,[.tmp 4],
 (.seq
 (.reg [] [⟨some 4,.mov (.cst (.d (.int .i64 0))),none⟩])
 (.seq
  (.seq
  (.reg [] [⟨some 6,.mov (.tmp 0),none⟩,
   ⟨some 7,.len (.tmp 6),none⟩,
   ⟨some 8,.mov (.cst (.d (.int .i64 0))),none⟩])
  (.post [] []
   (.block 0
   (.keep [0,1,7,8] []
    (.loop
    (.post [0,1,7,8] []
     (.seq
     (.reg [] [⟨some 9,.cmp .lss (.tmp 8) (.tmp 7),none⟩])
     (.seq
      (.cond (.tmp 9)
      .skip
      (.exit 0))
      (.seq
      (.block 1
       (.seq
       (.reg [] [⟨some 10,.mov (.tmp 8),none⟩,
        ⟨some 5,.mov (.tmp 10),none⟩])
       (.seq
        (.reg [] [⟨some 11,.mov (.tmp 1),none⟩,
         ⟨some 12,.mov (.tmp 0),none⟩,
         ⟨some 13,.mov (.tmp 5),none⟩,
         ⟨some 14,.ixa 1 (.tmp 12) (.tmp 13),none⟩,
         ⟨some 15,.ld false 1 (.tmp 14),none⟩,
         ⟨some 16,.callv (.tmp 11) [(.tmp 15)],none⟩])
        (.cond (.tmp 16)
        (.seq
         (.reg [] [⟨some 17,.mov (.tmp 5),none⟩,
          ⟨some 4,.mov (.tmp 17),none⟩])
         .ret)
        .skip))))
      (.reg [] [⟨some 18,.arith .add .i64 (.tmp 8) (.cst (.d (.int .i64 1))),none⟩,
       ⟨some 8,.mov (.tmp 18),none⟩]))))))))))
  (.seq
  (.reg [] [⟨some 4,.mov (.cst (.d (.int .i64 (-1)))),none⟩])
  .ret)))⟩
def jr164:AFun:=⟨9,0,[.tmp 4],
 (.seq
 (.reg [] [⟨some 4,.mov (.cst (.d (.bool false))),none⟩])
 (.seq
  (.reg [] [⟨some 5,.mov (.tmp 0),none⟩,
   ⟨some 6,.mov (.tmp 1),none⟩,
   ⟨some 7,.call 212 [(.tmp 5),(.tmp 6)],none⟩,
   ⟨some 8,.cmp .geq (.tmp 7) (.cst (.d (.int .i64 0))),none⟩,
   ⟨some 4,.mov (.tmp 8),none⟩])
  .ret))⟩
def jr105:AFun:=⟨49,3,[.tmp 4],
 (.seq
 (.reg [0] [⟨some 3,.cbx 0 1 (.tmp 1),none⟩,
  ⟨some 4,.mov (.cst (.d (.int .i64 0))),none⟩])
 (.seq
  (.seq
  (.reg [] [⟨some 10,.mov (.tmp 0),none⟩,
   ⟨some 11,.len (.tmp 10),none⟩,
   ⟨some 12,.call 99 [(.tmp 11),(.cst (.d (.int .i64 8)))],none⟩,
   ⟨some 5,.mov (.tmp 12),none⟩])
  (.seq
   (.reg [] [⟨some 13,.mov (.tmp 5),none⟩,
    ⟨some 14,.cmp .neq (.tmp 13) (.cst (.d (.int .i64 0))),none⟩])
   (.cond (.tmp 14)
   (.seq
    (.reg [] [⟨some 15,.mov (.tmp 5),none⟩,
     ⟨some 4,.mov (.tmp 15),none⟩])
    .ret)
   .skip)))
  (.seq
  (.seq
   (.reg [] [⟨some 16,.mov (.tmp 0),none⟩,
    ⟨some 17,.len (.tmp 16),none⟩,
    ⟨some 18,.mov (.cst (.d (.int .i64 0))),none⟩])
   (.post [] [0,1,2]
   (.block 0
    (.keep [0,3,16,17,18] [0]
    (.loop
     (.post [0,3,16,17,18] [1,2]
     (.seq
      (.reg [] [⟨some 19,.cmp .lss (.tmp 18) (.tmp 17),none⟩])
      (.seq
      (.cond (.tmp 19)
       .skip
       (.exit 0))
      (.seq
       (.block 1
       (.seq
        (.reg [1] [⟨some 20,.mov (.tmp 18),none⟩,
         ⟨some 21,.ixa 8 (.tmp 16) (.tmp 18),none⟩,
         ⟨some 22,.ld true 8 (.tmp 21),none⟩,
         ⟨some 7,.alloc 1 [(.d (.int .i64 0)),(.d (.int .i64 0)),(.d (.int .i64 0)),(.d (.int .i64 0)),(.d (.int .i64 0)),(.d (.int .i64 0)),(.d (.int .i64 0)),(.d (.int .i64 0))],none⟩,
         ⟨some 6,.mov (.tmp 20),none⟩,
         ⟨none,.st 8 (.tmp 7) (.tmp 22),none⟩])
        (.asdat 7
(.seq
        (.reg [] [⟨some 23,.fad 1 (.tmp 7),none⟩,
         ⟨some 24,.sla 7 (.tmp 23) none none,none⟩,
         ⟨some 25,.mkf (.func 165) [] [(.tmp 3)],none⟩,
         ⟨some 26,.call 164 [(.tmp 24),(.tmp 25)],none⟩,
         ⟨some 8,.mov (.tmp 26),none⟩])
        (.seq
         (.regd [2] [⟨some 27,.fad 0 (.tmp 7),none⟩,
          ⟨some 28,.ld false 1 (.tmp 27),none⟩,
          ⟨some 29,.call 109 [(.tmp 28),(.cst (.d (.int .i64 0))),(.cst (.d (.int .i64 363)))],none⟩,
          ⟨some 30,.mov (.tmp 8),none⟩,
          ⟨some 31,.call 111 [(.tmp 30),(.cst (.d (.int .i64 10)))],none⟩,
          ⟨some 32,.mov (.tmp 6),none⟩,
          ⟨some 33,.fad 0 (.tmp 7),none⟩,
          ⟨some 34,.ld false 1 (.tmp 33),none⟩,
          ⟨some 35,.mov (.tmp 0),none⟩,
          ⟨some 36,.mov (.tmp 6),none⟩,
          ⟨some 37,.arith .sub .i64 (.tmp 36) (.cst (.d (.int .i64 1))),none⟩,
          ⟨some 38,.maxi (.cst (.d (.int .i64 0))) (.tmp 37),none⟩,
          ⟨some 39,.ixa 8 (.tmp 35) (.tmp 38),none⟩,
          ⟨some 40,.fad 0 (.tmp 39),none⟩,
          ⟨some 41,.ld false 1 (.tmp 40),none⟩,
          ⟨some 42,.call 163 [(.tmp 32),(.tmp 34),(.tmp 41)],none⟩,
          ⟨some 43,.bsl 2 34 1 3 [(.int .i64 0),(.int .i64 0),(.int .i64 0)] [(0,(.tmp 29)),(1,(.tmp 31)),(2,(.tmp 42))],none⟩,
          ⟨some 44,.call 96 [(.tmp 43)],none⟩,
          ⟨some 9,.mov (.tmp 44),none⟩] [(0,3),(1,3),(2,3),(0,5),(1,5),(2,5),(3,5),(4,5),(0,6),(1,6),(2,6),(3,6),(4,6),(5,6),(0,7),(1,7),(2,7),(3,7),(4,7),(5,7),(0,8),(1,8),(2,8),(3,8),(4,8),(5,8),(6,8),(7,8),(0,9),(1,9),(2,9),(3,9),(4,9),(5,9),(6,9),(7,9),(8,9),(0,10),(1,10),(2,10),(3,10),(4,10),(5,10),(6,10),(7,10),(8,10),(0,11),(1,11),(2,11),(3,11),(4,11),(5,11),(6,11),(7,11),(8,11),(0,12),(1,12),(2,12),(3,12),(4,12),(5,12),(6,12),(7,12),(0,13),(1,13),(2,13),(3,13),(4,13),(5,13),(6,13),(7,13),(0,14),(1,14),(2,14),(3,14),(4,14),(5,14),(6,14),(7,14)])
         (.seq
         (.reg [] [⟨some 45,.mov (.tmp 9),none⟩,
          ⟨some 46,.cmp .neq (.tmp 45) (.cst (.d (.int .i64 0))),none⟩])
         (.cond (.tmp 46)
          (.seq
          (.reg [] [⟨some 47,.mov (.tmp 9),none⟩,
           ⟨some 4,.mov (.tmp 47),none⟩])
          .ret)
          .skip)))))))
       (.reg [] [⟨some 48,.arith .add .i64 (.tmp 18) (.cst (.d (.int .i64 1))),none⟩,
        ⟨some 18,.mov (.tmp 48),none⟩]))))))))))
  (.seq
   (.reg [] [⟨some 4,.mov (.cst (.d (.int .i64 0))),none⟩])
   .ret))))⟩
theorem c106 (l:List (Int × Int)) (hl:l.length≤1048576):CallDet Tryz.prog 106 [.d (.slice 2 (sws l))] [.int .i64 (blsE l)]:=by
 have hlen:=sws_len l
 refine call_of_vc (x:=jr106) (by kernel_rfl) rfl ?_
 refine sd ?_
 refine b_lt (fun t1=>?_) (fun t1=>?_)
 rotate_left
 rotate_left
 ·rw [hlen] at t1
  exact res_c (by unfold blsE; rw [decide_eq_true t1]; rfl)
 have hE:blsE l=scE blE l:=by
  rw [hlen] at t1
  unfold blsE; rw [decide_eq_false t1]; rfl
 refine loop_st (fun k:Nat=>⟨[(0,.d (.slice 2 (sws l))),(9,.d (.slice 2 (sws l))),(10,.d (.int .i64 (((sws l).length:Nat):Int))),(11,.d (.int .i64 (k:Int)))],[.none,.none]⟩) (fun k=>k≤l.length∧scanE (gE blE l) (l.length - k) k=scE blE l) (fun k=>l.length - k) 0 rfl ⟨Nat.zero_le _,rfl⟩ ?_
 rintro k ⟨hk,hI⟩
 dsimp only
 by_cases hkn:k < l.length
 ·refine Exists.elim (get_lt l hkn) fun x hx=>?_
  refine Exists.elim (prev_at hkn) fun p hp=>?_
  have hp2:l[k - 1]?=some p:=by rw [← hp]; congr 1; omega
  have hp3:l[((k:Int) - 1).toNat]?=some p:=by rw [← hp2]; congr 1; omega
  have hg:=gE_at blE hx hp2
  have hit:blE x k p≠0→resV [.int .i64 (blE x k p)]=resV [.int .i64 (blsE l)]:=fun t=>res_c ((hE.trans (scan_hit hI hkn hg t)).symm)
  have fin:blE x k p=0→∃ a':Nat,((a'≤l.length∧scanE (gE blE l) (l.length - a') a'=scE blE l)∧l.length - a' < l.length - k)∧(⟨[(0,.d (.slice 2 (sws l))),(9,.d (.slice 2 (sws l))),(10,.d (.int .i64 (((sws l).length:Nat):Int))),(11,.d (.int .i64 ((k:Int)+1)))],[.none,.none]⟩:St)=⟨[(0,.d (.slice 2 (sws l))),(9,.d (.slice 2 (sws l))),(10,.d (.int .i64 (((sws l).length:Nat):Int))),(11,.d (.int .i64 (a':Int)))],[.none,.none]⟩:=fun t=>⟨k+1,⟨⟨by omega,scan_go hI hkn hg t⟩,by omega⟩,rfl⟩
  have hx1:=sws_at hx
  have hp1:(sws l)[(max (0:Int) ((k:Int) - 1)).toNat]?=some (.agg [.int .i64 p.1,.int .i64 p.2]):=by unfold sws; rw [List.getElem?_map,hp]; rfl
  have c109_1:=c109 x.1 1 100000000
  have c109_2:=c109 x.2 (-100000) 100000
  by_cases h2:(0:Int) < k
  ·have e:blE x k p=firstOf [within3 x.1 1 100000000,within3 x.2 (-100000) 100000,bif decide (x.1≤p.1) then 11 else 0]:=by unfold blE; rw [decide_eq_true h2,cond_true]
   have c111_:=c111 (decide (x.1≤p.1)) 11
   have c96_:CallDet Tryz.prog 96 [.d (.slice 1 (ints [within3 x.1 1 100000000,within3 x.2 (-100000) 100000,bif decide (x.1≤p.1) then 11 else 0]))] [.int .i64 (firstOf [within3 x.1 1 100000000,within3 x.2 (-100000) 100000,bif decide (x.1≤p.1) then 11 else 0])]:=c96 _ (by simp)
   unfold ints at c96_
   rw [← e] at c96_
   refine sd ?_
   refine b_lt (fun t2=>?_) (fun t2=>?_)
   refine ix_at hx1 ?_ ?_
   (show (0:Int)≤(↑k:Int); omega)
   refine ca c109_1 ?_
   refine ca c109_2 ?_
   refine sd ?_
   refine b_lt (fun t3=>?_) (fun t3=>?_)
   refine ar_sub ?_ ?_
   refine an ?_ ?_
   (show (-9223372036854775808:Int)≤(↑k:Int) - (1:Int); omega)
   (show (↑k:Int) - (1:Int)≤(9223372036854775807:Int); omega)
   refine sd ?_
   refine ix_at hp1 ?_ ?_
   (show (0:Int)≤max (0:Int) ((↑k:Int) - (1:Int)); omega)
   refine sd ?_
   refine ca c111_ ?_
   refine sd ?_
   refine sd ?_
   refine ca c96_ ?_
   refine sd ?_
   refine b_ne (fun t4=>?_) (fun t4=>?_)
   rotate_left
   refine ar_add ?_ ?_
   refine an ?_ ?_
   (show (-9223372036854775808:Int)≤(↑k:Int)+(1:Int); omega)
   (show (↑k:Int)+(1:Int)≤(9223372036854775807:Int); omega)
   rotate_left
   (exfalso; omega)
   (exfalso; omega)
   ·exact hit t4
   ·exact fin t4
  ·have e:blE x k p=firstOf [within3 x.1 1 100000000,within3 x.2 (-100000) 100000,bif false then 11 else 0]:=by unfold blE; rw [decide_eq_false h2,cond_false]
   have c111_:=c111 false 11
   have c96_:CallDet Tryz.prog 96 [.d (.slice 1 (ints [within3 x.1 1 100000000,within3 x.2 (-100000) 100000,bif false then 11 else 0]))] [.int .i64 (firstOf [within3 x.1 1 100000000,within3 x.2 (-100000) 100000,bif false then 11 else 0])]:=c96 _ (by simp)
   unfold ints at c96_
   rw [← e] at c96_
   refine sd ?_
   refine b_lt (fun t2=>?_) (fun t2=>?_)
   refine ix_at hx1 ?_ ?_
   (show (0:Int)≤(↑k:Int); omega)
   refine ca c109_1 ?_
   refine ca c109_2 ?_
   refine sd ?_
   refine b_lt (fun t3=>?_) (fun t3=>?_)
   (exfalso; omega)
   refine sd ?_
   refine ca c111_ ?_
   refine sd ?_
   refine sd ?_
   refine ca c96_ ?_
   refine sd ?_
   refine b_ne (fun t4=>?_) (fun t4=>?_)
   rotate_left
   refine ar_add ?_ ?_
   refine an ?_ ?_
   (show (-9223372036854775808:Int)≤(↑k:Int)+(1:Int); omega)
   (show (↑k:Int)+(1:Int)≤(9223372036854775807:Int); omega)
   rotate_left
   (exfalso; omega)
   ·exact hit t4
   ·exact fin t4
 ·have e:k=l.length:=by omega
  subst e
  refine sd ?_
  refine b_lt (fun t2=>?_) (fun t2=>?_)
  (exfalso; omega)
  rotate_left
  exact res_c ((hE.trans (scan_end hI)).symm)
def badN (n x:Int):Bool:=decide (x < 0)||decide (n≤x)
theorem c165 (n x:Int):CallDet Tryz.prog 165 [.d (.int .i64 x),.cp [.int .i64 n] 0] [.bool (badN n x)]:=by
 refine call_of_vc (x:=jr165) (by kernel_rfl) rfl ?_
 refine sd ?_
 refine b_lt (fun t1=>?_) (fun t1=>?_)
 refine sd ?_
 rotate_left
 refine sd ?_
 rotate_left
 ·exact congrArg (fun b=>resV [Data.bool b]) (by unfold badN; rw [decide_eq_true t1]; rfl)
 ·exact congrArg (fun b=>resV [Data.bool b]) (by unfold badN; rw [decide_eq_false t1]; rfl)
theorem c212 (l : List Int) (hl : l.length ≤ 1048576) (f : Nat) (cs : List Data) (p : Int → Bool) (hp : ∀ o ∈ l, CallDet Tryz.prog f [.d (.int .i64 o), .cp cs 0] [.bool (p o)]) :
  CallDet Tryz.prog 212 [.d (.slice 1 (ints l)),.d (.fn (.func f) [.agg cs])] [.int .i64 (ixF p l 0)]:=by
 have hlen:(ints l).length=l.length:=by simp [ints]
 refine call_of_vc (x:=jr212) (by kernel_rfl) rfl ?_
 have fin:∀ v:Int,ixF p l 0=v→resV [.int .i64 v]=resV [.int .i64 (ixF p l 0)]:=fun v h=>by rw [h]
 refine loop_st (fun k:Nat=>⟨[(0,.d (.slice 1 (ints l))),(1,.d (.fn (.func f) [.agg cs])),(7,.d (.int .i64 ((ints l).length:Int))),(8,.d (.int .i64 k))],[]⟩)
  (fun k=>ixF p l 0=ixF p (l.drop k) k) (fun k=>l.length - k) 0 rfl rfl ?_
 intro k hi
 refine sd ?_
 refine b_lt (fun h=>?_) (fun h=>?_)
 ·have h:(k:Int) < ((ints l).length:Int):=h
  refine Exists.elim (get_lt l (k:=k) (by omega)) fun o hx=>?_
  rw [drop_at hx,ixF] at hi
  refine ix_at (ints_get hx) (by omega) ?_
  refine ca (hp o (List.mem_of_getElem? hx)) ?_
  refine b_intro (fun h2=>?_) (fun h2=>?_)
  ·have h2:p o=true:=h2
   exact fin _ (by rw [hi,h2]; rfl)
  ·have h2:p o=false:=h2
   refine ar_add (by omega) ?_
   exact ⟨k+1,⟨by rw [hi,h2]; rfl,by omega⟩,rfl⟩
 ·have h:¬ (k:Int) < ((ints l).length:Int):=h
  rw [List.drop_eq_nil_of_le (by omega)] at hi
  exact fin _ hi
theorem c164 (l : List Int) (hl : l.length ≤ 1048576) (f : Nat) (cs : List Data) (p : Int → Bool) (hp : ∀ o ∈ l, CallDet Tryz.prog f [.d (.int .i64 o), .cp cs 0] [.bool (p o)]) :
  CallDet Tryz.prog 164 [.d (.slice 1 (ints l)),.d (.fn (.func f) [.agg cs])] [.bool (l.any p)]:=by
 refine call_of_vc (x:=jr164) (by kernel_rfl) rfl ?_
 refine ca (c212 l hl f cs p hp) ?_
 refine sd ?_
 exact (congrArg (fun b=>resV [.bool b]) (ixF_ge p l 0 (by omega)))
def wk (s:Sea):List Int:=[s.a,s.b,s.c,s.d,s.e,s.g,s.h]
def seaE (n:Int) (x:Sea) (i:Int) (p:Sea):Int:=firstOf [within3 x.f 0 363,bif (wk x).any (badN n) then 10 else 0,ascE i x.f p.f]
def seasE (n:Int) (l:List Sea):Int:=bif cntE l.length 8 != 0 then cntE l.length 8 else scE (seaE n) l
theorem c105 (l:List Sea) (hl:l.length≤1048576) (n:Int):CallDet Tryz.prog 105 [.d (.slice 8 (seas l)),.d (.int .i64 n)] [.int .i64 (seasE n l)]:=by
 have hlen:=seas_len l
 have c99_:=c99 (((seas l).length:Nat):Int) 8
 refine call_of_vc (x:=jr105) (by kernel_rfl) rfl ?_
 refine ca c99_ ?_
 refine sd ?_
 refine b_ne (fun t1=>?_) (fun t1=>?_)
 rotate_left
 rotate_left
 ·rw [hlen] at t1 ⊢
  exact res_c (by unfold seasE; rw [bne_t t1]; rfl)
 have hE:seasE n l=scE (seaE n) l:=by
  rw [hlen] at t1
  unfold seasE; rw [t1]; rfl
 refine loop_st (fun k:Nat=>⟨[(0,.d (.slice 8 (seas l))),(3,.ptr 0 0),(16,.d (.slice 8 (seas l))),(17,.d (.int .i64 (((seas l).length:Nat):Int))),(18,.d (.int .i64 (k:Int)))],[.cbox [.int .i64 n],.none,.none]⟩) (fun k=>k≤l.length∧scanE (gE (seaE n) l) (l.length - k) k=scE (seaE n) l) (fun k=>l.length - k) 0 rfl ⟨Nat.zero_le _,rfl⟩ ?_
 rintro k ⟨hk,hI⟩
 dsimp only
 by_cases hkn:k < l.length
 ·refine Exists.elim (get_lt l hkn) fun x hx=>?_
  refine Exists.elim (prev_at hkn) fun p hp=>?_
  have hp2:l[k - 1]?=some p:=by rw [← hp]; congr 1; omega
  have hp3:l[((k:Int) - 1).toNat]?=some p:=by rw [← hp2]; congr 1; omega
  have hg:=gE_at (seaE n) hx hp2
  have hit:(seaE n) x k p≠0→resV [.int .i64 ((seaE n) x k p)]=resV [.int .i64 (seasE n l)]:=fun t=>res_c ((hE.trans (scan_hit hI hkn hg t)).symm)
  have fin:(seaE n) x k p=0→∃ a':Nat,((a'≤l.length∧scanE (gE (seaE n) l) (l.length - a') a'=scE (seaE n) l)∧l.length - a' < l.length - k)∧(⟨[(0,.d (.slice 8 (seas l))),(3,.ptr 0 0),(16,.d (.slice 8 (seas l))),(17,.d (.int .i64 (((seas l).length:Nat):Int))),(18,.d (.int .i64 ((k:Int)+1)))],[.cbox [.int .i64 n],.none,.none]⟩:St)=⟨[(0,.d (.slice 8 (seas l))),(3,.ptr 0 0),(16,.d (.slice 8 (seas l))),(17,.d (.int .i64 (((seas l).length:Nat):Int))),(18,.d (.int .i64 (a':Int)))],[.cbox [.int .i64 n],.none,.none]⟩:=fun t=>⟨k+1,⟨⟨by omega,scan_go hI hkn hg t⟩,by omega⟩,rfl⟩
  have hx1:=seas_at hx
  have hp1:(seas l)[(max (0:Int) ((k:Int) - 1)).toNat]?=some (.agg [.int .i64 p.f,.int .i64 p.a,.int .i64 p.b,.int .i64 p.c,.int .i64 p.d,.int .i64 p.e,.int .i64 p.g,.int .i64 p.h]):=by unfold seas; rw [List.getElem?_map,hp]; rfl
  have c109_:=c109 x.f 0 363
  have c163_:=c163 k x.f p.f
  have c111_:=c111 ((wk x).any (badN n)) 10
  have c164_:CallDet Tryz.prog 164 [.d (.slice 1 [.int .i64 x.a,.int .i64 x.b,.int .i64 x.c,.int .i64 x.d,.int .i64 x.e,.int .i64 x.g,.int .i64 x.h]),.d (.fn (.func 165) [.agg [.int .i64 n]])] [.bool ((wk x).any (badN n))]:=c164 (wk x) (by unfold wk; simp) 165 [.int .i64 n] (badN n) (fun o _=>c165 n o)
  have c96_:CallDet Tryz.prog 96 [.d (.slice 1 [.int .i64 (within3 x.f 0 363),.int .i64 (bif (wk x).any (badN n) then 10 else 0),.int .i64 (ascE k x.f p.f)])] [.int .i64 (seaE n x k p)]:=c96 [within3 x.f 0 363,bif (wk x).any (badN n) then 10 else 0,ascE k x.f p.f] (by simp)
  generalize (wk x).any (badN n)=w at *
  refine sd ?_
  refine b_lt (fun t2=>?_) (fun t2=>?_)
  refine ix_at hx1 ?_ ?_
  (show (0:Int)≤(↑k:Int); omega)
  refine an ?_ ?_
  refine an ?_ ?_
  (show (0:Int)≤(0:Int); omega)
  refine an ?_ ?_
  (show (0:Int)≤(↑(7:Nat):Int); omega)
  refine an ?_ ?_
  (show (↑(7:Nat):Int)≤(↑(7:Nat):Int); omega)
  (show (0:Nat)+(1:Nat)+(7:Nat)≤(1:Nat)+(1:Nat)+(1:Nat)+(1:Nat)+(1:Nat)+(1:Nat)+(1:Nat)+(1:Nat); omega)
  refine ca c164_ ?_
  refine ca c109_ ?_
  refine ca c111_ ?_
  refine ar_sub ?_ ?_
  refine an ?_ ?_
  (show (-9223372036854775808:Int)≤(↑k:Int) - (1:Int); omega)
  (show (↑k:Int) - (1:Int)≤(9223372036854775807:Int); omega)
  refine sd ?_
  refine ix_at hp1 ?_ ?_
  (show (0:Int)≤max (0:Int) ((↑k:Int) - (1:Int)); omega)
  refine ca c163_ ?_
  refine sd ?_
  refine sd ?_
  refine ca c96_ ?_
  refine sd ?_
  refine b_ne (fun t3=>?_) (fun t3=>?_)
  rotate_left
  refine ar_add ?_ ?_
  refine an ?_ ?_
  (show (-9223372036854775808:Int)≤(↑k:Int)+(1:Int); omega)
  (show (↑k:Int)+(1:Int)≤(9223372036854775807:Int); omega)
  rotate_left
  (exfalso; omega)
  ·exact hit t3
  ·exact fin t3
 ·have e:k=l.length:=by omega
  subst e
  refine sd ?_
  refine b_lt (fun t2=>?_) (fun t2=>?_)
  (exfalso; omega)
  rotate_left
  exact res_c ((hE.trans (scan_end hI)).symm)
end Vc
