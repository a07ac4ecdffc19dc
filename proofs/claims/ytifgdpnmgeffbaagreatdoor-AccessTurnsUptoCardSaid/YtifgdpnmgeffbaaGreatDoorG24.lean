import Derived.Test.YtifgdpnmgeffbaaGreatDoorG23
set_option linter.unusedSectionVars false
set_option linter.unusedVariables false
set_option linter.unusedSimpArgs false
set_option maxRecDepth 10000
set_option maxHeartbeats 4000000
namespace Vc
open Go Go.Proofs
@[irreducible] def seg90p:ACode:=(.post [0,1,2,7,8,9,10,11,12,13] [0,1]
 (.block 4
 (.keep [0,1,2,7,8,9,10,11,12,13,14] [0,1]
 (.loop
 (.post [0,1,2,7,8,9,10,11,12,13,14] []
 (.seq
 (.seq
 (.reg [] [⟨some 31,.mov (.tmp 14),none⟩,
 ⟨some 32,.mov (.tmp 0),none⟩,
 ⟨some 33,.len (.tmp 32),none⟩,
 ⟨some 34,.cmp .lss (.tmp 31) (.tmp 33),none⟩])
 (.cond (.tmp 34)
 .skip
 (.exit 4)))
 (.seq
 (.block 5
 (.seq
 (.regd [] [⟨some 37,.mov (.tmp 10),none⟩,
 ⟨some 38,.mov (.tmp 14),none⟩,
 ⟨some 39,.call 94 [(.tmp 37),(.tmp 38)],none⟩,
 ⟨some 40,.not (.tmp 39),none⟩,
 ⟨some 41,.mov (.tmp 40),none⟩,
 ⟨some 42,.mov (.tmp 13),some (41,true)⟩,
 ⟨some 43,.cmp .lss (.tmp 42) (.cst (.d (.int .i64 0))),some (41,true)⟩,
 ⟨some 44,.mov (.tmp 43),some (41,true)⟩,
 ⟨some 45,.mov (.tmp 7),some (44,false)⟩,
 ⟨some 46,.mov (.tmp 14),some (44,false)⟩,
 ⟨some 47,.ixa 1 (.tmp 45) (.tmp 46),some (44,false)⟩,
 ⟨some 48,.ld false 1 (.tmp 47),some (44,false)⟩,
 ⟨some 49,.mov (.tmp 7),some (44,false)⟩,
 ⟨some 50,.mov (.tmp 13),some (44,false)⟩,
 ⟨some 51,.maxi (.cst (.d (.int .i64 0))) (.tmp 50),some (44,false)⟩,
 ⟨some 52,.ixa 1 (.tmp 49) (.tmp 51),some (44,false)⟩,
 ⟨some 53,.ld false 1 (.tmp 52),some (44,false)⟩,
 ⟨some 54,.cmp .lss (.tmp 48) (.tmp 53),some (44,false)⟩,
 ⟨some 55,.pick (.tmp 44) (.cst (.d (.bool true))) (.tmp 54),some (41,true)⟩,
 ⟨some 56,.pick (.tmp 41) (.tmp 55) (.cst (.d (.bool false))),none⟩] [(0,1),(8,9),(8,12),(9,12),(10,12),(11,12),(8,13),(9,13),(10,13),(11,13),(12,13),(8,14),(9,14),(10,14),(11,14),(12,14),(8,15),(9,15),(10,15),(11,15),(8,16),(9,16),(10,16),(11,16)])
 (.cond (.tmp 56)
 (.reg [] [⟨some 57,.mov (.tmp 14),none⟩,
 ⟨some 13,.mov (.tmp 57),none⟩])
 .skip)))
 (.reg [] [⟨some 35,.mov (.tmp 14),none⟩,
 ⟨some 36,.arith .add .i64 (.tmp 35) (.cst (.d (.int .i64 1))),none⟩,
 ⟨some 14,.mov (.tmp 36),none⟩]))))))))
@[irreducible] def seg90q:ACode:=(.post [0,1,2,7,8,9,11] [0,1,2,3,4,5]
 (.block 2
 (.asrow 5 3 1 11
 (.asrow 3 3 1 10
 (.keep [0,1,2,7,8,9,10,11,12] [0,1]
 (.loop
 (.post [0,1,2,7,8,9,10,11,12] [2,3,4,5]
 (.seq
 (.seq
 (.reg [] [⟨some 26,.mov (.tmp 10),none⟩,
 ⟨some 27,.len (.tmp 26),none⟩,
 ⟨some 28,.mov (.tmp 0),none⟩,
 ⟨some 29,.len (.tmp 28),none⟩,
 ⟨some 30,.cmp .lss (.tmp 27) (.tmp 29),none⟩])
 (.cond (.tmp 30)
 .skip
 (.exit 2)))
 (.block 3
 (.seq
 (.reg [] [⟨some 13,.mov (.cst (.d (.int .i64 (-1)))),none⟩])
 (.seq
 (.seq
 (.reg [] [⟨some 14,.mov (.cst (.d (.int .i64 0))),none⟩])
 (.keep [0,1,2,7,8,9,10,11,12,13,14] [0,2,4] seg90p))
 (.seq
 (.reg [2,3] [⟨some 58,.mov (.tmp 10),none⟩,
 ⟨some 59,.mov (.tmp 13),none⟩,
 ⟨some 60,.bsl 2 3 1 1 [(.int .i64 0)] [(0,(.tmp 59))],none⟩,
 ⟨some 61,.app 3 3 1 8 (.tmp 58) (.tmp 60),none⟩,
 ⟨some 10,.mov (.tmp 61),none⟩])
 (.seq
 (.reg [] [⟨some 62,.mov (.tmp 12),none⟩,
 ⟨some 63,.mov (.tmp 0),none⟩,
 ⟨some 64,.mov (.tmp 13),none⟩,
 ⟨some 65,.ixa 2 (.tmp 63) (.tmp 64),none⟩,
 ⟨some 66,.fad 1 (.tmp 65),none⟩,
 ⟨some 67,.ld false 1 (.tmp 66),none⟩,
 ⟨some 68,.arith .add .i64 (.tmp 62) (.tmp 67),none⟩,
 ⟨some 69,.mov (.tmp 1),none⟩,
 ⟨some 70,.cmp .leq (.tmp 68) (.tmp 69),none⟩])
 (.cond (.tmp 70)
 (.seq
 (.reg [] [⟨some 71,.mov (.tmp 12),none⟩,
 ⟨some 72,.mov (.tmp 0),none⟩,
 ⟨some 73,.mov (.tmp 13),none⟩,
 ⟨some 74,.ixa 2 (.tmp 72) (.tmp 73),none⟩,
 ⟨some 75,.fad 1 (.tmp 74),none⟩,
 ⟨some 76,.ld false 1 (.tmp 75),none⟩,
 ⟨some 77,.arith .add .i64 (.tmp 71) (.tmp 76),none⟩,
 ⟨some 12,.mov (.tmp 77),none⟩])
 (.reg [4,5] [⟨some 78,.mov (.tmp 11),none⟩,
 ⟨some 79,.mov (.tmp 13),none⟩,
 ⟨some 80,.bsl 4 3 1 1 [(.int .i64 0)] [(0,(.tmp 79))],none⟩,
 ⟨some 81,.app 5 3 1 8 (.tmp 78) (.tmp 80),none⟩,
 ⟨some 11,.mov (.tmp 81),none⟩]))
 .skip))))))))))))))
@[irreducible] def seg90a:ACode:=(.post [0,1,2,7,8,9,15] [0,1,2,3,4,5,6,7]
 (.block 6
 (.asrow 7 3 1 15
 (.keep [0,1,2,7,8,9,11,15,16] [0,1,2,3,4,5]
 (.loop
 (.post [0,1,2,7,8,9,11,15,16] [6,7]
 (.seq
 (.seq
 (.reg [] [⟨some 82,.mov (.tmp 16),none⟩,
 ⟨some 83,.mov (.tmp 0),none⟩,
 ⟨some 84,.len (.tmp 83),none⟩,
 ⟨some 85,.cmp .lss (.tmp 82) (.tmp 84),none⟩])
 (.cond (.tmp 85)
 .skip
 (.exit 6)))
 (.seq
 (.block 7
 (.seq
 (.reg [] [⟨some 88,.mov (.tmp 11),none⟩,
 ⟨some 89,.mov (.tmp 16),none⟩,
 ⟨some 90,.call 94 [(.tmp 88),(.tmp 89)],none⟩])
 (.cond (.tmp 90)
 (.seq
 (.reg [6,7] [⟨some 91,.mov (.tmp 15),none⟩,
 ⟨some 92,.mov (.tmp 16),none⟩,
 ⟨some 93,.bsl 6 3 1 1 [(.int .i64 0)] [(0,(.tmp 92))],none⟩,
 ⟨some 94,.app 7 3 1 8 (.tmp 91) (.tmp 93),none⟩,
 ⟨some 15,.mov (.tmp 94),none⟩])
 (.reg [] [⟨some 95,.mov (.tmp 7),none⟩,
 ⟨some 96,.mov (.tmp 16),none⟩,
 ⟨some 97,.ixa 1 (.tmp 95) (.tmp 96),none⟩,
 ⟨some 98,.ld false 1 (.tmp 97),none⟩,
 ⟨some 99,.arith .add .i64 (.tmp 98) (.cst (.d (.int .i64 1))),none⟩,
 ⟨some 100,.ixa 1 (.tmp 95) (.tmp 96),none⟩,
 ⟨none,.st 1 (.tmp 100) (.tmp 99),none⟩]))
 .skip)))
 (.reg [] [⟨some 86,.mov (.tmp 16),none⟩,
 ⟨some 87,.arith .add .i64 (.tmp 86) (.cst (.d (.int .i64 1))),none⟩,
 ⟨some 16,.mov (.tmp 87),none⟩])))))))))
def jr90:AFun:=⟨106,10,[.tmp 6],
 (.seq
 (.reg [] [⟨some 6,.mov (.cst (.nils 1)),none⟩])
 (.seq
  (.reg [0,1] [⟨some 17,.bsl 0 3 1 0 [] [],none⟩,
   ⟨some 18,.mov (.tmp 0),none⟩,
   ⟨some 19,.len (.tmp 18),none⟩,
   ⟨some 20,.appz 1 3 1 8 (.int .i64 0) (.tmp 17) (.tmp 19),none⟩,
   ⟨some 7,.mov (.tmp 20),none⟩])
  (.seq
  (.reg [] [⟨some 8,.mov (.cst (.nils 1)),none⟩])
  (.seq
   (.seq
   (.reg [] [⟨some 9,.mov (.cst (.d (.int .i64 0))),none⟩])
   (.post [8] [0,1,2,3,4,5,6,7,8,9]
    (.block 0
    (.asrow 9 28 1 8
     (.keep [0,1,2,7,8,9] [0,1]
     (.loop
      (.post [0,1,2,7,8,9] [2,3,4,5,6,7,8,9]
      (.seq
       (.seq
       (.reg [] [⟨some 21,.mov (.tmp 9),none⟩,
        ⟨some 22,.mov (.tmp 2),none⟩,
        ⟨some 23,.cmp .lss (.tmp 21) (.tmp 22),none⟩])
       (.cond (.tmp 23)
        .skip
        (.exit 0)))
       (.seq
       (.block 1
        (.seq
        (.reg [] [⟨some 10,.mov (.cst (.nils 1)),none⟩,
         ⟨some 11,.mov (.cst (.nils 1)),none⟩])
        (.seq
         (.reg [] [⟨some 12,.mov (.cst (.d (.int .i64 0))),none⟩])
         (.seq
         (.keep [0,1,2,7,8,9,10,11,12] [] seg90q)
         (.seq
          (.reg [] [⟨some 15,.mov (.cst (.nils 1)),none⟩])
          (.seq
          (.seq
           (.reg [] [⟨some 16,.mov (.cst (.d (.int .i64 0))),none⟩])
           (.keep [0,1,2,7,8,9,11,15,16] [0,1,2,3,4,6] seg90a))
          (.reg [8,9] [⟨some 101,.mov (.tmp 8),none⟩,
           ⟨some 102,.mov (.tmp 15),none⟩,
           ⟨some 103,.bsl 8 28 1 1 [(.slice 1 [])] [(0,(.tmp 102))],none⟩,
           ⟨some 104,.app 9 28 1 24 (.tmp 101) (.tmp 103),none⟩,
           ⟨some 8,.mov (.tmp 104),none⟩])))))))
       (.reg [] [⟨some 24,.mov (.tmp 9),none⟩,
        ⟨some 25,.arith .add .i64 (.tmp 24) (.cst (.d (.int .i64 1))),none⟩,
        ⟨some 9,.mov (.tmp 25),none⟩]))))))))))
   (.seq
   (.reg [] [⟨some 105,.mov (.tmp 8),none⟩,
    ⟨some 6,.mov (.tmp 105),none⟩])
   .ret)))))⟩
theorem tAt_get {t:List Int} {k:Nat} (h:k < t.length):(ints t)[k]?=some (.int .i64 (tAt t k)):=by
 show (t.map _)[k]?=_
 unfold tAt
 rw [List.getElem?_map,List.getElem?_eq_getElem h]; rfl
theorem ints_len2 (t:List Int):(ints t).length=t.length:=List.length_map _
theorem pick_rng (t A:List Int) (k:Nat):-1≤pick t A k∧pick t A k < k:=by
 rcases pick_spec t A k with ⟨h,_⟩ | ⟨p,h,h2,_,_⟩ <;> rw [h] <;> omega
theorem v90p {N:Nat} {lim n s:Int} {l:List Ld} {t:List Int} {D:List (List Int)} {A R:List Int} {w:Int} (ht:t.length=l.length) (hl:l.length≤8) (hA:A.length≤8) {Q:AExit→St→Prop} (hQ:Q .normal ⟨[(0,.d (.slice 2 (lds l))),(1,.d (.int .i64 lim)),(2,.d (.int .i64 n)),(7,.sl 0 (ints t).length),(8,.sl 9 (iss D).length),(9,.d (.int .i64 s)),(10,.sl 3 (ints A).length),(11,.sl 5 (ints R).length),(12,.d (.int .i64 w)),(13,.d (.int .i64 (pick t A l.length)))],[.row 3 1 (ints (t)) false,.none,.none,.row 3 1 (ints (A)) false,.none,.row 3 1 (ints (R)) false,.none,.none,.none,.row 28 1 (iss D) false]⟩):vc Tryz.prog N seg90p ⟨[(0,.d (.slice 2 (lds l))),(1,.d (.int .i64 lim)),(2,.d (.int .i64 n)),(7,.sl 0 (ints t).length),(8,.sl 9 (iss D).length),(9,.d (.int .i64 s)),(10,.sl 3 (ints A).length),(11,.sl 5 (ints R).length),(12,.d (.int .i64 w)),(13,.d (.int .i64 (-1))),(14,.d (.int .i64 (0)))],[.row 3 1 (ints (t)) false,.none,.none,.row 3 1 (ints (A)) false,.none,.row 3 1 (ints (R)) false,.none,.none,.none,.row 28 1 (iss D) false]⟩ Q:=by
 unfold seg90p
 have hlen:=lds_len l
 have hlt:=ints_len2 t
 have hlA:=ints_len2 A
 refine loop_st (fun k:Nat=>⟨[(0,.d (.slice 2 (lds l))),(1,.d (.int .i64 lim)),(2,.d (.int .i64 n)),(7,.sl 0 (ints t).length),(8,.sl 9 (iss D).length),(9,.d (.int .i64 s)),(10,.sl 3 (ints A).length),(11,.sl 5 (ints R).length),(12,.d (.int .i64 w)),(13,.d (.int .i64 (pick t A k))),(14,.d (.int .i64 ((k:Nat))))],[.row 3 1 (ints (t)) false,.none,.none,.row 3 1 (ints (A)) false,.none,.row 3 1 (ints (R)) false,.none,.none,.none,.row 28 1 (iss D) false]⟩) (fun k=>k≤l.length) (fun k=>l.length - k) 0 rfl (Nat.zero_le _) ?_
 intro k hk
 have hk:k≤l.length:=hk
 dsimp only
 by_cases hkn:k < l.length
 ·have hp:=pick_rng t A k
  have c94_:=c94 A (k:Int) (by omega)
  have g1:(ints t)[((k:Int)).toNat]?=some (.int .i64 (tAt t k)):=tAt_get (by omega)
  have g2:(ints t)[(max 0 (pick t A k)).toNat]?=some (.int .i64 (tAt t (max 0 (pick t A k)).toNat)):=tAt_get (by omega)
  have fin:∀ q,q=pick t A (k+1)→∃ a':Nat,(a'≤l.length∧l.length - a' < l.length - k)∧(⟨[(0,.d (.slice 2 (lds l))),(1,.d (.int .i64 lim)),(2,.d (.int .i64 n)),(7,.sl 0 (ints t).length),(8,.sl 9 (iss D).length),(9,.d (.int .i64 s)),(10,.sl 3 (ints A).length),(11,.sl 5 (ints R).length),(12,.d (.int .i64 w)),(13,.d (.int .i64 (q))),(14,.d (.int .i64 ((k:Int)+1)))],[.row 3 1 (ints (t)) false,.none,.none,.row 3 1 (ints (A)) false,.none,.row 3 1 (ints (R)) false,.none,.none,.none,.row 28 1 (iss D) false]⟩:St)=⟨[(0,.d (.slice 2 (lds l))),(1,.d (.int .i64 lim)),(2,.d (.int .i64 n)),(7,.sl 0 (ints t).length),(8,.sl 9 (iss D).length),(9,.d (.int .i64 s)),(10,.sl 3 (ints A).length),(11,.sl 5 (ints R).length),(12,.d (.int .i64 w)),(13,.d (.int .i64 (pick t A a'))),(14,.d (.int .i64 ((a':Nat))))],[.row 3 1 (ints (t)) false,.none,.none,.row 3 1 (ints (A)) false,.none,.row 3 1 (ints (R)) false,.none,.none,.none,.row 28 1 (iss D) false]⟩:=fun q e =>
   ⟨k+1,⟨by omega,by omega⟩,by rw [e]; rfl⟩
  rw [pick] at fin
  generalize A.contains (k:Int)=c at *
  have hm:0≤max 0 (pick t A k)∧max 0 (pick t A k) < (t.length:Int):=by omega
  generalize tAt t k=x at *
  generalize tAt t (max 0 (pick t A k)).toNat=y at *
  generalize pick t A k=p at *
  cases c
  ·refine sd ?_
   refine b_lt (fun t1=>?_) (fun t1=>?_)
   refine sd ?_
   refine ca c94_ ?_
   refine sd ?_
   refine b_lt (fun t2=>?_) (fun t2=>?_)
   refine sd ?_
   refine ar_add ?_ ?_
   refine an ?_ ?_
   (show (-9223372036854775808:Int)≤(↑k:Int)+(1:Int); omega)
   (show (↑k:Int)+(1:Int)≤(9223372036854775807:Int); omega)
   rotate_left
   refine an ?_ ?_
   refine an ?_ ?_
   exact rfl
   refine an ?_ ?_
   exact rfl
   refine an ?_ ?_
   (show (0:Int)≤(↑k:Int); omega)
   (show (↑k:Int) < (↑(List.length (ints t)):Int); omega)
   refine sd ?_
   refine ca g1 ?_
   refine sd ?_
   refine an ?_ ?_
   refine an ?_ ?_
   exact rfl
   refine an ?_ ?_
   exact rfl
   refine an ?_ ?_
   (show (0:Int)≤max (0:Int) p; omega)
   (show max (0:Int) p < (↑(List.length (ints t)):Int); omega)
   refine sd ?_
   refine ca g2 ?_
   refine sd ?_
   refine b_lt (fun t3=>?_) (fun t3=>?_)
   refine ar_add ?_ ?_
   refine an ?_ ?_
   (show (-9223372036854775808:Int)≤(↑k:Int)+(1:Int); omega)
   (show (↑k:Int)+(1:Int)≤(9223372036854775807:Int); omega)
   rotate_left
   refine ar_add ?_ ?_
   refine an ?_ ?_
   (show (-9223372036854775808:Int)≤(↑k:Int)+(1:Int); omega)
   (show (↑k:Int)+(1:Int)≤(9223372036854775807:Int); omega)
   rotate_left
   (exfalso; omega)
   all_goals refine fin _ ?_
   all_goals first | (simp_all [cmpF]; done) | (rw [decide_eq_false (by omega),decide_eq_false (by omega)]; rfl) | (exfalso; simp_all [cmpF]; done)
  ·refine sd ?_
   refine b_lt (fun t1=>?_) (fun t1=>?_)
   refine sd ?_
   refine ca c94_ ?_
   refine sd ?_
   refine ar_add ?_ ?_
   refine an ?_ ?_
   (show (-9223372036854775808:Int)≤(↑k:Int)+(1:Int); omega)
   (show (↑k:Int)+(1:Int)≤(9223372036854775807:Int); omega)
   rotate_left
   (exfalso; omega)
   all_goals refine fin _ ?_
   all_goals first | (simp_all [cmpF]; done) | (rw [decide_eq_false (by omega),decide_eq_false (by omega)]; rfl) | (exfalso; simp_all [cmpF]; done)
 ·have e:k=l.length:=by omega
  subst e
  refine sd ?_
  refine b_lt (fun t1=>?_) (fun t1=>?_)
  (exfalso; omega)
  rotate_left
  exact hQ
def bumpK (run t:List Int) (k:Nat):List Int:=(List.range t.length).map fun (i:Nat)=>bif decide (i < k) then tAt t i+(bif run.contains (i:Int) then 1 else 0) else tAt t i
theorem bumpK_len (run t:List Int) (k:Nat):(bumpK run t k).length=t.length:=by unfold bumpK; rw [List.length_map,List.length_range]
theorem bumpK_get {run t:List Int} {k i:Nat} (h:i < t.length):(bumpK run t k)[i]?=some (bif decide (i < k) then tAt t i+(bif run.contains (i:Int) then 1 else 0) else tAt t i):=by
 unfold bumpK
 rw [List.getElem?_map,List.getElem?_range h]; rfl
theorem bumpK_0 (run t:List Int):bumpK run t 0=t:=by
 refine List.ext_getElem? fun i=>?_
 by_cases h:i < t.length
 ·rw [bumpK_get h,decide_eq_false (by omega)]
  show some (tAt t i)=_
  unfold tAt
  rw [List.getElem?_eq_getElem h]; rfl
 ·rw [List.getElem?_eq_none (by rw [bumpK_len]; omega),List.getElem?_eq_none (by omega)]
theorem bumpK_all (run t:List Int):bumpK run t t.length=bumpT run t:=by
 unfold bumpK bumpT
 refine List.map_congr_left fun i hi=>?_
 rw [decide_eq_true (List.mem_range.1 hi)]; rfl
theorem bumpK_f {run t:List Int} {k:Nat} (h:run.contains (k:Int)=false):bumpK run t (k+1)=bumpK run t k:=by
 unfold bumpK
 refine List.map_congr_left fun i hi=>?_
 by_cases e:i=k
 ·subst e
  rw [decide_eq_true (by omega),decide_eq_false (by omega),h]
  show tAt t i+0=tAt t i
  omega
 ·by_cases h2:i < k
  ·rw [decide_eq_true (by omega),decide_eq_true (by omega)]
  ·rw [decide_eq_false (by omega),decide_eq_false (by omega)]
theorem bumpK_t {run t:List Int} {k:Nat} (hk:k < t.length) (h:run.contains (k:Int)=true):(bumpK run t k).set k (tAt t k+1)=bumpK run t (k+1):=by
 refine List.ext_getElem? fun i=>?_
 by_cases hi:i < t.length
 ·by_cases e:i=k
  ·subst e
   rw [List.getElem?_set_self (by rw [bumpK_len]; exact hi),bumpK_get hi,decide_eq_true (by omega),h]; rfl
  ·rw [List.getElem?_set_ne (Ne.symm e),bumpK_get hi,bumpK_get hi]
   by_cases h2:i < k
   ·rw [decide_eq_true (by omega),decide_eq_true (by omega)]
   ·rw [decide_eq_false (by omega),decide_eq_false (by omega)]
 ·rw [List.getElem?_eq_none (by rw [List.length_set,bumpK_len]; omega),List.getElem?_eq_none (by rw [bumpK_len]; omega)]
theorem v90a {N:Nat} {lim n s:Int} {l:List Ld} {t:List Int} {D:List (List Int)} {R:List Int} (ht:t.length=l.length) (hl:l.length≤8) (hR:R.length≤8) (hb:∀ i,0≤tAt t i∧tAt t i≤100) {Q:AExit→St→Prop} (hQ:Q .normal ⟨[(0,.d (.slice 2 (lds l))),(1,.d (.int .i64 lim)),(2,.d (.int .i64 n)),(7,.sl 0 (ints (bumpT R t)).length),(8,.sl 9 (iss D).length),(9,.d (.int .i64 s)),(15,.sl 7 (ints (upTo R l.length)).length)],[.row 3 1 (ints (bumpT R t)) false,.none,.none,.none,.none,.none,.none,.row 3 1 (ints (upTo R l.length)) false,.none,.row 28 1 (iss D) false]⟩):vc Tryz.prog N seg90a ⟨[(0,.d (.slice 2 (lds l))),(1,.d (.int .i64 lim)),(2,.d (.int .i64 n)),(7,.sl 0 (ints (t)).length),(8,.sl 9 (iss D).length),(9,.d (.int .i64 s)),(11,.sl 5 (ints R).length),(15,.nils 1),(16,.d (.int .i64 (0)))],[.row 3 1 (ints (t)) false,.none,.none,.none,.none,.row 3 1 (ints (R)) false,.none,.none,.none,.row 28 1 (iss D) false]⟩ Q:=by
 unfold seg90a
 have hlen:=lds_len l
 have hlR:=ints_len2 R
 have hlU:∀ k,(upTo R k).length≤k:=fun k=>by
  induction k with
  | zero=>exact Nat.le_refl _
  | succ k ih =>
   rw [upTo,List.length_append]
   cases R.contains (k:Int) <;> (simp only [cond_true,cond_false,List.length_nil,List.length_singleton]; omega)
 refine loop_st (fun k:Nat=>⟨[(0,.d (.slice 2 (lds l))),(1,.d (.int .i64 lim)),(2,.d (.int .i64 n)),(7,.sl 0 (ints (bumpK R t k)).length),(8,.sl 9 (iss D).length),(9,.d (.int .i64 s)),(11,.sl 5 (ints R).length),(15,.sl 7 (ints (upTo R k)).length),(16,.d (.int .i64 ((k:Nat))))],[.row 3 1 (ints (bumpK R t k)) false,.none,.none,.none,.none,.row 3 1 (ints (R)) false,.none,.row 3 1 (ints (upTo R k)) false,.none,.row 28 1 (iss D) false]⟩) (fun k=>k≤l.length) (fun k=>l.length - k) 0 (by rw [bumpK_0]; rfl) (Nat.zero_le _) ?_
 intro k hk
 have hk:k≤l.length:=hk
 have hlB:=(ints_len2 (bumpK R t k)).trans (bumpK_len R t k)
 have hlU2:=hlU k
 have hlU3:=ints_len2 (upTo R k)
 dsimp only
 by_cases hkn:k < l.length
 ·have c94_:=c94 R (k:Int) (by omega)
  have hbk:=hb k
  have g1:(ints (bumpK R t k))[((k:Int)).toNat]?=some (.int .i64 (tAt t k)):=by
   show ((bumpK R t k).map _)[k]?=_
   rw [List.getElem?_map,bumpK_get (by omega),decide_eq_false (by omega)]; rfl
  have fin:∀ U B:List Data,U=ints (upTo R (k+1))→B=ints (bumpK R t (k+1))→∃ a':Nat,(a'≤l.length∧l.length - a' < l.length - k)∧(⟨[(0,.d (.slice 2 (lds l))),(1,.d (.int .i64 lim)),(2,.d (.int .i64 n)),(7,.sl 0 B.length),(8,.sl 9 (iss D).length),(9,.d (.int .i64 s)),(11,.sl 5 (ints R).length),(15,.sl 7 U.length),(16,.d (.int .i64 ((k:Int)+1)))],[.row 3 1 B false,.none,.none,.none,.none,.row 3 1 (ints (R)) false,.none,.row 3 1 U false,.none,.row 28 1 (iss D) false]⟩:St)=⟨[(0,.d (.slice 2 (lds l))),(1,.d (.int .i64 lim)),(2,.d (.int .i64 n)),(7,.sl 0 (ints (bumpK R t a')).length),(8,.sl 9 (iss D).length),(9,.d (.int .i64 s)),(11,.sl 5 (ints R).length),(15,.sl 7 (ints (upTo R a')).length),(16,.d (.int .i64 ((a':Nat))))],[.row 3 1 (ints (bumpK R t a')) false,.none,.none,.none,.none,.row 3 1 (ints (R)) false,.none,.row 3 1 (ints (upTo R a')) false,.none,.row 28 1 (iss D) false]⟩:=fun U B e1 e2 =>
   ⟨k+1,⟨by omega,by omega⟩,by rw [e1,e2]; rfl⟩
  rw [upTo] at fin
  cases hc:R.contains (k:Int) with
  | true =>
   rw [hc] at c94_ fin
   have fin:=fin (ints (upTo R k)++[.int .i64 (k:Int)]) ((ints (bumpK R t k)).set k (.int .i64 (tAt t k+1))) (by unfold ints; rw [List.map_append]; rfl) (by rw [← bumpK_t (by omega) hc]; unfold ints; rw [List.map_set])
   rw [List.length_set] at fin
   refine sd ?_
   refine b_lt (fun t1=>?_) (fun t1=>?_)
   refine sd ?_
   refine ca c94_ ?_
   refine sd ?_
   refine sd ?_
   refine sd ?_
   refine an ?_ ?_
   refine an ?_ ?_
   exact rfl
   refine an ?_ ?_
   exact rfl
   refine an ?_ ?_
   exact rfl
   refine an ?_ ?_
   (show (List.length (ints (upTo R k))+(1:Nat)) * (8:Nat)≤(2:Nat) ^ (47:Nat); omega)
   (show List.length (ints (upTo R k))+(1:Nat)≤(2:Nat) ^ (47:Nat); omega)
   refine an ?_ ?_
   refine an ?_ ?_
   exact rfl
   refine an ?_ ?_
   exact rfl
   refine an ?_ ?_
   (show (0:Int)≤(↑k:Int); omega)
   (show (↑k:Int) < (↑(List.length (ints (bumpK R t k))):Int); omega)
   refine sd ?_
   refine ca g1 ?_
   refine ar_add ?_ ?_
   refine an ?_ ?_
   (show (-9223372036854775808:Int)≤tAt t k+(1:Int); omega)
   (show tAt t k+(1:Int)≤(9223372036854775807:Int); omega)
   refine an ?_ ?_
   refine an ?_ ?_
   exact rfl
   refine an ?_ ?_
   exact rfl
   refine an ?_ ?_
   (show (0:Int)≤(↑k:Int); omega)
   (show (↑k:Int) < (↑(List.length (ints (bumpK R t k))):Int); omega)
   refine Exists.intro _ (Exists.intro (Data.int IntKind.i64 (tAt t k+(1:Int))) (And.intro (And.intro ?_ (And.intro g1 (And.intro rfl (And.intro ?_ (And.intro rfl rfl))))) ?_))
   exact rfl
   (show (0:Nat)+(1:Nat)≤(1:Nat); omega)
   refine ar_add ?_ ?_
   refine an ?_ ?_
   (show (-9223372036854775808:Int)≤(↑k:Int)+(1:Int); omega)
   (show (↑k:Int)+(1:Int)≤(9223372036854775807:Int); omega)
   rotate_left
   (exfalso; omega)
   all_goals exact fin
  | false =>
   rw [hc] at c94_ fin
   have fin:=fin (ints (upTo R k)) (ints (bumpK R t k)) (by simp) (by rw [bumpK_f hc])
   refine sd ?_
   refine b_lt (fun t1=>?_) (fun t1=>?_)
   refine sd ?_
   refine ca c94_ ?_
   refine ar_add ?_ ?_
   refine an ?_ ?_
   (show (-9223372036854775808:Int)≤(↑k:Int)+(1:Int); omega)
   (show (↑k:Int)+(1:Int)≤(9223372036854775807:Int); omega)
   rotate_left
   (exfalso; omega)
   all_goals exact fin
 ·have e:k=l.length:=by omega
  subst e
  have e2:bumpK R t l.length=bumpT R t:=by rw [← ht]; exact bumpK_all R t
  rw [e2]
  refine sd ?_
  refine b_lt (fun t1=>?_) (fun t1=>?_)
  (exfalso; omega)
  rotate_left
  exact hQ
theorem rn_at {l:List Ld} {t:List Int} {j:Nat} {r:Rn} (hr:(ordr l t)[j]?=some r):∃ (i:Nat) (x:Ld),i < l.length∧l[i]?=some x∧r.ix=(i:Int)∧r.pw=x.2∧r.nm=x.1∧r.tn=tAt t i:=by
 obtain ⟨i,hi,e⟩:=ordr_mem.1 (List.mem_of_getElem? hr)
 refine ⟨i,l[i],hi,List.getElem?_eq_getElem hi,?_⟩
 rw [e]
 unfold rnAt
 rw [List.getElem?_eq_getElem hi]
 exact ⟨rfl,rfl,rfl,rfl⟩
theorem gP_rng (lim:Int):∀ {O:List Rn} {p:Int},(∀ r∈O,0≤r.pw∧r.pw≤1000)→0≤p→0≤gP lim O p∧gP lim O p≤max p lim
 | [],p,_,h=>⟨h,by show p≤_; omega⟩
 | r::O,p,hO,h=>by
  have h1:=hO r List.mem_cons_self
  have h2:=fun x hx=>hO x (List.mem_cons_of_mem _ hx)
  rw [gP]
  by_cases hc:lim < p+r.pw
  ·rw [decide_eq_true hc]; exact gP_rng lim h2 h
  ·rw [decide_eq_false hc]
   have h3:=gP_rng lim (O:=O) (p:=p+r.pw) h2 (by omega)
   simp only [cond_false]
   omega
theorem gGo_len (lim:Int):∀ (O:List Rn) (p:Int),(gGo lim O p).2.length≤O.length
 | [],_=>Nat.le_refl _
 | r::O,p=>by
  rw [gGo]
  cases decide (lim < p+r.pw)
  ·exact Nat.succ_le_succ (gGo_len lim O _)
  ·exact Nat.le_succ_of_le (gGo_len lim O _)
theorem v90q {N:Nat} {lim n s:Int} {l:List Ld} {t:List Int} {D:List (List Int)} (ht:t.length=l.length) (hl:l.length≤8) (hlim:0≤lim∧lim≤8000) (hx:∀ x∈l,0≤x.2∧x.2≤1000) {Q:AExit→St→Prop} (hQ:Q .normal ⟨[(0,.d (.slice 2 (lds l))),(1,.d (.int .i64 lim)),(2,.d (.int .i64 n)),(7,.sl 0 (ints t).length),(8,.sl 9 (iss D).length),(9,.d (.int .i64 s)),(11,.sl 5 (ints (runOf lim l t)).length)],[.row 3 1 (ints (t)) false,.none,.none,.none,.none,.row 3 1 (ints (runOf lim l t)) false,.none,.none,.none,.row 28 1 (iss D) false]⟩):vc Tryz.prog N seg90q ⟨[(0,.d (.slice 2 (lds l))),(1,.d (.int .i64 lim)),(2,.d (.int .i64 n)),(7,.sl 0 (ints t).length),(8,.sl 9 (iss D).length),(9,.d (.int .i64 s)),(10,.nils 1),(11,.nils 1),(12,.d (.int .i64 (0)))],[.row 3 1 (ints (t)) false,.none,.none,.none,.none,.none,.none,.none,.none,.row 28 1 (iss D) false]⟩ Q:=by
 unfold seg90q
 have hlen:=lds_len l
 have hlt:=ints_len2 t
 have hlO:=ordr_len l t
 have hmem:=fun r=>(ordr_mem (l:=l) (t:=t) (r:=r)).1
 have hpk:=fun j r=>pick_ordr (l:=l) (t:=t) (j:=j) (r:=r)
 have hrn:=fun j r=>rn_at (l:=l) (t:=t) (j:=j) (r:=r)
 have hOp:∀ r∈ordr l t,0≤r.pw∧r.pw≤1000:=fun r hr=>by
  obtain ⟨j,hj⟩:=List.getElem?_of_mem hr
  obtain ⟨i,x,_,h2,_,h4,_⟩:=rn_at hj
  rw [h4]
  exact hx x (List.mem_of_getElem? h2)
 have hru:runOf lim l t=(gGo lim (ordr l t) 0).2:=rfl
 rw [hru] at hQ
 clear hru hmem
 generalize ordr l t=O at *
 refine loop_st (fun j:Nat=>⟨[(0,.d (.slice 2 (lds l))),(1,.d (.int .i64 lim)),(2,.d (.int .i64 n)),(7,.sl 0 (ints t).length),(8,.sl 9 (iss D).length),(9,.d (.int .i64 s)),(10,.sl 3 (ints ((O.take j).map Rn.ix)).length),(11,.sl 5 (ints ((gGo lim (O.take j) 0).2)).length),(12,.d (.int .i64 (gP lim (O.take j) 0)))],[.row 3 1 (ints (t)) false,.none,.none,.row 3 1 (ints ((O.take j).map Rn.ix)) false,.none,.row 3 1 (ints ((gGo lim (O.take j) 0).2)) false,.none,.none,.none,.row 28 1 (iss D) false]⟩) (fun j=>j≤l.length) (fun j=>l.length - j) 0 rfl (Nat.zero_le _) ?_
 intro j hj
 have hj:j≤l.length:=hj
 have hlA:(ints ((O.take j).map Rn.ix)).length=j:=by rw [ints_len2,List.length_map,List.length_take]; omega
 have hlA2:((O.take j).map Rn.ix).length=j:=by rw [List.length_map,List.length_take]; omega
 have hlR:(gGo lim (O.take j) 0).2.length≤j:=by have:=gGo_len lim (O.take j) 0; rw [List.length_take] at this; omega
 have hlR2:=ints_len2 (gGo lim (O.take j) 0).2
 have hgp:=gP_rng lim (O:=O.take j) (p:=0) (fun r hr=>hOp r (List.mem_of_mem_take hr)) (Int.le_refl 0)
 dsimp only
 by_cases hjn:j < l.length
 ·refine Exists.elim (get_lt O (k:=j) (by omega)) fun r hr=>?_
  obtain ⟨i,x,hi,hlx,hix,hpw,_,_⟩:=hrn j r hr
  have hpk:=hpk j r hr
  have hxr:=hx x (List.mem_of_getElem? hlx)
  have hd:=lds_at hlx
  rw [← hpw] at hd hxr
  have g1:=gGo_snoc lim r (O.take j) 0
  have g2:=gP_snoc lim r (O.take j) 0
  rw [← take_one hr] at g1 g2
  have hA1:ints ((O.take (j+1)).map Rn.ix)=ints ((O.take j).map Rn.ix)++[.int .i64 r.ix]:=by rw [take_one hr,List.map_append]; unfold ints; rw [List.map_append]; rfl
  have fin:∀ (A U:List Data) (w:Int),A=ints ((O.take (j+1)).map Rn.ix)→U=ints (gGo lim (O.take (j+1)) 0).2→w=gP lim (O.take (j+1)) 0→∃ a':Nat,(a'≤l.length∧l.length - a' < l.length - j)∧(⟨[(0,.d (.slice 2 (lds l))),(1,.d (.int .i64 lim)),(2,.d (.int .i64 n)),(7,.sl 0 (ints t).length),(8,.sl 9 (iss D).length),(9,.d (.int .i64 s)),(10,.sl 3 A.length),(11,.sl 5 U.length),(12,.d (.int .i64 w))],[.row 3 1 (ints (t)) false,.none,.none,.row 3 1 A false,.none,.row 3 1 U false,.none,.none,.none,.row 28 1 (iss D) false]⟩:St)=⟨[(0,.d (.slice 2 (lds l))),(1,.d (.int .i64 lim)),(2,.d (.int .i64 n)),(7,.sl 0 (ints t).length),(8,.sl 9 (iss D).length),(9,.d (.int .i64 s)),(10,.sl 3 (ints ((O.take a').map Rn.ix)).length),(11,.sl 5 (ints ((gGo lim (O.take a') 0).2)).length),(12,.d (.int .i64 (gP lim (O.take a') 0)))],[.row 3 1 (ints (t)) false,.none,.none,.row 3 1 (ints ((O.take a').map Rn.ix)) false,.none,.row 3 1 (ints ((gGo lim (O.take a') 0).2)) false,.none,.none,.none,.row 28 1 (iss D) false]⟩:=fun A U w e1 e2 e3 =>
   ⟨j+1,⟨by omega,by omega⟩,by rw [e1,e2,e3]⟩
  rw [hA1,g1,g2] at fin
  have hvp:=fun (Q:AExit→St→Prop)=>v90p (N:=N) (lim:=lim) (n:=n) (s:=s) (l:=l) (t:=t) (D:=D) (A:=(O.take j).map Rn.ix) (R:=(gGo lim (O.take j) 0).2) (w:=gP lim (O.take j) 0) ht hl (by omega) (Q:=Q)
  rw [hpk] at hvp
  rw [hix] at *
  clear hpk g1 g2 hA1 hOp
  generalize gP lim (O.take j) 0=w at *
  generalize (gGo lim (O.take j) 0).2=R at *
  generalize (O.take j).map Rn.ix=A at *
  by_cases hc:lim < w+r.pw
  ·rw [decide_eq_true hc] at fin
   have fin:=fin _ (ints R) w rfl (by simp) rfl
   refine sd ?_
   refine sd ?_
   refine b_lt (fun t1=>?_) (fun t1=>?_)
   refine hvp _ ?_
   refine sd ?_
   refine sd ?_
   refine sd ?_
   refine an ?_ ?_
   refine an ?_ ?_
   exact rfl
   refine an ?_ ?_
   exact rfl
   refine an ?_ ?_
   exact rfl
   refine an ?_ ?_
   (show (List.length (ints A)+(1:Nat)) * (8:Nat)≤(2:Nat) ^ (47:Nat); omega)
   (show List.length (ints A)+(1:Nat)≤(2:Nat) ^ (47:Nat); omega)
   refine ix_at hd ?_ ?_
   (show (0:Int)≤(↑i:Int); omega)
   refine ar_add ?_ ?_
   refine an ?_ ?_
   (show (-9223372036854775808:Int)≤w+Rn.pw r; omega)
   (show w+Rn.pw r≤(9223372036854775807:Int); omega)
   refine sd ?_
   refine b_le (fun t2=>?_) (fun t2=>?_)
   (exfalso; omega)
   rotate_left
   (exfalso; omega)
   all_goals exact fin
  ·rw [decide_eq_false hc] at fin
   have fin:=fin _ (ints R++[.int .i64 (i:Int)]) (w+r.pw) rfl (by unfold ints; rw [List.map_append]; rfl) rfl
   refine sd ?_
   refine sd ?_
   refine b_lt (fun t1=>?_) (fun t1=>?_)
   refine hvp _ ?_
   refine sd ?_
   refine sd ?_
   refine sd ?_
   refine an ?_ ?_
   refine an ?_ ?_
   exact rfl
   refine an ?_ ?_
   exact rfl
   refine an ?_ ?_
   exact rfl
   refine an ?_ ?_
   (show (List.length (ints A)+(1:Nat)) * (8:Nat)≤(2:Nat) ^ (47:Nat); omega)
   (show List.length (ints A)+(1:Nat)≤(2:Nat) ^ (47:Nat); omega)
   refine ix_at hd ?_ ?_
   (show (0:Int)≤(↑i:Int); omega)
   refine ar_add ?_ ?_
   refine an ?_ ?_
   (show (-9223372036854775808:Int)≤w+Rn.pw r; omega)
   (show w+Rn.pw r≤(9223372036854775807:Int); omega)
   refine sd ?_
   refine b_le (fun t2=>?_) (fun t2=>?_)
   refine ix_at hd ?_ ?_
   (show (0:Int)≤(↑i:Int); omega)
   refine ar_add ?_ ?_
   refine an ?_ ?_
   (show (-9223372036854775808:Int)≤w+Rn.pw r; omega)
   (show w+Rn.pw r≤(9223372036854775807:Int); omega)
   refine sd ?_
   refine sd ?_
   refine sd ?_
   refine an ?_ ?_
   refine an ?_ ?_
   exact rfl
   refine an ?_ ?_
   exact rfl
   refine an ?_ ?_
   exact rfl
   refine an ?_ ?_
   (show (List.length (ints R)+(1:Nat)) * (8:Nat)≤(2:Nat) ^ (47:Nat); omega)
   (show List.length (ints R)+(1:Nat)≤(2:Nat) ^ (47:Nat); omega)
   rotate_left
   (exfalso; omega)
   (exfalso; omega)
   all_goals exact fin
 ·have e:j=l.length:=by omega
  subst e
  rw [List.take_of_length_le (by omega)] at hlA hlA2 ⊢
  refine sd ?_
  refine sd ?_
  refine b_lt (fun t1=>?_) (fun t1=>?_)
  (exfalso; omega)
  rotate_left
  exact hQ
def t0 (l:List Ld):List Int:=List.replicate l.length 0
def tAfter (lim:Int) (l:List Ld):Nat→List Int→List Int
 | 0,t=>t
 | k+1,t=>tAfter lim l k (bumpT (runOf lim l t) t)
theorem tAfter_len (lim:Int) (l:List Ld):∀ (k:Nat) (t:List Int),(tAfter lim l k t).length=t.length
 | 0,_=>rfl
 | k+1,t=>(tAfter_len lim l k _).trans (bumpT_len _ _)
theorem tAfter_succ (lim:Int) (l:List Ld):∀ (k:Nat) (t:List Int),tAfter lim l (k+1) t=bumpT (runOf lim l (tAfter lim l k t)) (tAfter lim l k t)
 | 0,_=>rfl
 | k+1,t=>by rw [tAfter,tAfter_succ lim l k]; rfl
theorem slots_succ (lim:Int) (l:List Ld):∀ (k:Nat) (t:List Int),slots lim l (k+1) t=slots lim l k t++[slotOf lim l (tAfter lim l k t)]
 | 0,_=>rfl
 | k+1,t=>by
  show slotOf lim l t::slots lim l (k+1) (bumpT (runOf lim l t) t)=slotOf lim l t::(slots lim l k (bumpT (runOf lim l t) t)++[_])
  rw [slots_succ lim l k]; rfl
theorem slots_len (lim:Int) (l:List Ld):∀ (k:Nat) (t:List Int),(slots lim l k t).length=k
 | 0,_=>rfl
 | k+1,t=>congrArg (·+1) (slots_len lim l k _)
theorem tAfter_rng (lim:Int) (l:List Ld):∀ (k:Nat) (i:Nat),0≤tAt (tAfter lim l k (t0 l)) i∧tAt (tAfter lim l k (t0 l)) i≤k
 | 0,i=>by
  show 0≤tAt (t0 l) i∧tAt (t0 l) i≤((0:Nat):Int)
  unfold tAt t0
  rw [List.getElem?_replicate]
  split <;> exact ⟨Int.le_refl _,Int.le_refl _⟩
 | k+1,i=>by
  have h:=tAfter_rng lim l k i
  rw [tAfter_succ]
  by_cases hi:i < (tAfter lim l k (t0 l)).length
  ·rw [bumpT_at hi]
   cases (runOf lim l (tAfter lim l k (t0 l))).contains (i:Int) <;> (simp only [cond_true,cond_false]; omega)
  ·unfold tAt
   rw [List.getElem?_eq_none (by rw [bumpT_len]; omega)]
   show 0≤(0:Int)∧(0:Int)≤((k+1:Nat):Int)
   omega
theorem iss_snoc (a:List (List Int)) (x:List Int):iss (a++[x])=iss a++[Data.slice 1 (ints x)]:=List.map_append
theorem c90 (l:List Ld) (lim n:Int) (hl:l.length≤8) (hlim:0≤lim∧lim≤8000) (hn:0≤n∧n≤64) (hx:∀ x∈l,0≤x.2∧x.2≤1000):CallDet Tryz.prog 90 [.d (.slice 2 (lds l)),.d (.int .i64 lim),.d (.int .i64 n)] [.slice 1 (iss (slots lim l n.toNat (t0 l)))]:=by
 have hlen:=lds_len l
 have e0:List.replicate (((lds l).length:Int)).toNat (Data.int .i64 0)=ints (t0 l):=by
  rw [hlen]; unfold t0 ints; rw [List.map_replicate]; rfl
 refine call_of_vc (x:=jr90) (by kernel_rfl) rfl ?_
 refine sd ?_
 refine an ?_ ?_
 (show (0:Int)≤(↑(List.length (lds l)):Int); omega)
 refine an ?_ ?_
 refine an ?_ ?_
 exact rfl
 refine an ?_ ?_
 exact rfl
 refine an ?_ ?_
 exact rfl
 refine an ?_ ?_
 (show ((0:Nat)+List.length (lds l)) * (8:Nat)≤(2:Nat) ^ (47:Nat); omega)
 (show (0:Nat)+List.length (lds l)≤(2:Nat) ^ (47:Nat); omega)
 rotate_left
 refine loop_st (fun k:Nat=>⟨[(0,.d (.slice 2 (lds l))),(1,.d (.int .i64 lim)),(2,.d (.int .i64 n)),(7,.sl 0 (ints (tAfter lim l k (t0 l))).length),(8,.sl 9 (iss (slots lim l k (t0 l))).length),(9,.d (.int .i64 (k:Nat)))],[.row 3 1 (ints (tAfter lim l k (t0 l))) false,.none,.none,.none,.none,.none,.none,.none,.none,.row 28 1 (iss (slots lim l k (t0 l))) false]⟩) (fun k=>(k:Int)≤n) (fun k=>n.toNat - k) 0 ?_ hn.1 ?_
 ·show (⟨[(0,.d (.slice 2 (lds l))),(1,.d (.int .i64 lim)),(2,.d (.int .i64 n)),(7,.sl 0 (List.replicate (((lds l).length:Int)).toNat (Data.int .i64 0)).length),(8,.sl 9 0),(9,.d (.int .i64 0))],[.row 3 1 (List.replicate (((lds l).length:Int)).toNat (Data.int .i64 0)) false,.none,.none,.none,.none,.none,.none,.none,.none,.row 28 1 [] false]⟩:St)=_
  rw [e0]; rfl
 intro k hk
 have hk:(k:Int)≤n:=hk
 dsimp only
 by_cases hkn:(k:Int) < n
 ·have hts:=tAfter_succ lim l k (t0 l)
  have hss:=slots_succ lim l k (t0 l)
  have htl:(tAfter lim l k (t0 l)).length=l.length:=by rw [tAfter_len]; exact List.length_replicate
  have htr:=tAfter_rng lim l k
  have hsl:=slots_len lim l k (t0 l)
  have hsl2:=iss_len (slots lim l k (t0 l))
  have fin:∃ a':Nat,((a':Int)≤n∧n.toNat - a' < n.toNat - k)∧(⟨[(0,.d (.slice 2 (lds l))),(1,.d (.int .i64 lim)),(2,.d (.int .i64 n)),(7,.sl 0 (ints (bumpT (runOf lim l (tAfter lim l k (t0 l))) (tAfter lim l k (t0 l)))).length),(8,.sl 9 (iss (slots lim l k (t0 l))++[Data.slice 1 (ints (slotOf lim l (tAfter lim l k (t0 l))))]).length),(9,.d (.int .i64 ((k:Int)+1)))],[.row 3 1 (ints (bumpT (runOf lim l (tAfter lim l k (t0 l))) (tAfter lim l k (t0 l)))) false,.none,.none,.none,.none,.none,.none,.none,.none,.row 28 1 (iss (slots lim l k (t0 l))++[Data.slice 1 (ints (slotOf lim l (tAfter lim l k (t0 l))))]) false]⟩:St)=⟨[(0,.d (.slice 2 (lds l))),(1,.d (.int .i64 lim)),(2,.d (.int .i64 n)),(7,.sl 0 (ints (tAfter lim l a' (t0 l))).length),(8,.sl 9 (iss (slots lim l a' (t0 l))).length),(9,.d (.int .i64 (a':Nat)))],[.row 3 1 (ints (tAfter lim l a' (t0 l))) false,.none,.none,.none,.none,.none,.none,.none,.none,.row 28 1 (iss (slots lim l a' (t0 l))) false]⟩ :=
   ⟨k+1,⟨by omega,by omega⟩,by rw [hts,hss,iss_snoc]; rfl⟩
  have hsd:slotOf lim l (tAfter lim l k (t0 l))=upTo (runOf lim l (tAfter lim l k (t0 l))) l.length:=rfl
  rw [hsd] at fin
  have hrl:(runOf lim l (tAfter lim l k (t0 l))).length≤8:=by have:=gGo_len lim (ordr l (tAfter lim l k (t0 l))) 0; rw [ordr_len] at this; exact Nat.le_trans this hl
  have hvq:=fun (Q:AExit→St→Prop)=>v90q (N:=106) (lim:=lim) (n:=n) (s:=(k:Int)) (l:=l) (t:=tAfter lim l k (t0 l)) (D:=slots lim l k (t0 l)) htl hl hlim hx (Q:=Q)
  have hva:=fun (Q:AExit→St→Prop)=>v90a (N:=106) (lim:=lim) (n:=n) (s:=(k:Int)) (l:=l) (t:=tAfter lim l k (t0 l)) (D:=slots lim l k (t0 l)) (R:=runOf lim l (tAfter lim l k (t0 l))) htl hl hrl (fun i=>by have:=htr i; omega) (Q:=Q)
  clear htr hts hss hsd
  generalize runOf lim l (tAfter lim l k (t0 l))=R at *
  generalize tAfter lim l k (t0 l)=t at *
  generalize slots lim l k (t0 l)=D at *
  refine sd ?_
  refine b_lt (fun t1=>?_) (fun t1=>?_)
  refine hvq _ ?_
  refine hva _ ?_
  refine sd ?_
  refine sd ?_
  refine sd ?_
  refine sd ?_
  refine an ?_ ?_
  refine an ?_ ?_
  exact rfl
  refine an ?_ ?_
  exact rfl
  refine an ?_ ?_
  exact rfl
  refine an ?_ ?_
  (show (List.length (iss D)+(1:Nat)) * (24:Nat)≤(2:Nat) ^ (47:Nat); omega)
  (show List.length (iss D)+(1:Nat)≤(2:Nat) ^ (47:Nat); omega)
  refine ar_add ?_ ?_
  refine an ?_ ?_
  (show (-9223372036854775808:Int)≤(↑k:Int)+(1:Int); omega)
  (show (↑k:Int)+(1:Int)≤(9223372036854775807:Int); omega)
  rotate_left
  (exfalso; omega)
  all_goals exact fin
 ·have e:k=n.toNat:=by omega
  subst e
  refine sd ?_
  refine b_lt (fun t1=>?_) (fun t1=>?_)
  (exfalso; omega)
  refine sd ?_
  exact rfl
end Vc
