import Derived.Test.YtifgdpnmgeffbaaGreatDoorG10
set_option linter.unusedSectionVars false
set_option linter.unusedVariables false
set_option linter.unusedSimpArgs false
set_option maxRecDepth 10000
set_option maxHeartbeats 4000000
namespace Vc
open Go Go.Proofs
def dg (m n:Int) (k j:Nat):Int:=(digN m n k)[j]?.getD 0
theorem dg_eq (m n:Int) (k:Nat):dg m n (k+1) k=restN m n k % m:=by
 unfold dg
 rw [digN,List.getElem?_append_right (by rw [digN_len]; exact Nat.le_refl _),digN_len,Nat.sub_self]; rfl
theorem dg_ne (m n:Int) {k j:Nat} (h:j≠k):dg m n (k+1) j=dg m n k j:=by
 unfold dg
 rw [digN]
 by_cases hc:j < k
 ·rw [List.getElem?_append_left (by rw [digN_len]; exact hc)]
 ·rw [List.getElem?_eq_none (by rw [List.length_append,digN_len]; show k+1≤j; omega),List.getElem?_eq_none (by rw [digN_len]; omega)]
@[irreducible] def seg133a:ACode:=(.post [0,1,2,8,9,10,13,27,28] [0,1,2]
 (.block 4
 (.keep [0,1,2,8,9,10,12,13,27,28,31,32] [0,1,2]
 (.loop
 (.post [0,1,2,8,9,10,12,13,27,28,31,32] []
 (.seq
 (.reg [] [⟨some 33,.cmp .lss (.tmp 32) (.tmp 31),none⟩])
 (.seq
 (.cond (.tmp 33)
 .skip
 (.exit 4))
 (.seq
 (.block 5
 (.seq
 (.reg [] [⟨some 34,.mov (.tmp 32),none⟩,
 ⟨some 14,.mov (.tmp 34),none⟩])
 (.seq
 (.reg [] [⟨some 35,.mov (.tmp 14),none⟩,
 ⟨some 36,.mov (.tmp 12),none⟩,
 ⟨some 37,.mov (.tmp 1),none⟩,
 ⟨some 38,.arith .add .i64 (.tmp 37) (.cst (.d (.int .i64 1))),none⟩,
 ⟨some 39,.arith .rem .i64 (.tmp 36) (.tmp 38),none⟩,
 ⟨some 40,.ixp 5 1 (.tmp 13) (.tmp 35),none⟩,
 ⟨none,.st 1 (.tmp 40) (.tmp 39),none⟩])
 (.reg [] [⟨some 41,.mov (.tmp 12),none⟩,
 ⟨some 42,.mov (.tmp 1),none⟩,
 ⟨some 43,.arith .add .i64 (.tmp 42) (.cst (.d (.int .i64 1))),none⟩,
 ⟨some 44,.arith .quo .i64 (.tmp 41) (.tmp 43),none⟩,
 ⟨some 12,.mov (.tmp 44),none⟩]))))
 (.reg [] [⟨some 45,.arith .add .i64 (.tmp 32) (.cst (.d (.int .i64 1))),none⟩,
 ⟨some 32,.mov (.tmp 45),none⟩])))))))))
@[irreducible] def seg133f:ACode:=(.post [0,1,2,8,9,10,27,28] [0,1,2]
 (.block 6
 (.keep [0,1,2,8,9,10,27,28,61,62] [0,1,2]
 (.loop
 (.post [0,1,2,8,9,10,27,28,61,62] []
 (.seq
 (.reg [] [⟨some 63,.cmp .lss (.tmp 62) (.cst (.d (.int .i64 5))),none⟩])
 (.seq
 (.cond (.tmp 63)
 .skip
 (.exit 6))
 (.seq
 (.block 7
 (.seq
 (.reg [] [⟨some 64,.mov (.tmp 62),none⟩,
 ⟨some 65,.ixv false 5 1 (.tmp 61) (.tmp 62),none⟩,
 ⟨some 15,.mov (.tmp 64),none⟩,
 ⟨some 16,.mov (.tmp 65),none⟩])
 (.regd [] [⟨some 66,.mov (.tmp 15),none⟩,
 ⟨some 67,.mov (.tmp 15),none⟩,
 ⟨some 68,.mov (.tmp 15),none⟩,
 ⟨some 69,.ixp 5 1 (.tmp 8) (.tmp 68),none⟩,
 ⟨some 70,.ld false 1 (.tmp 69),none⟩,
 ⟨some 71,.mov (.tmp 16),none⟩,
 ⟨some 72,.mini (.tmp 70) (.tmp 71),none⟩,
 ⟨some 73,.mov (.tmp 15),none⟩,
 ⟨some 74,.ixp 5 1 (.tmp 9) (.tmp 73),none⟩,
 ⟨some 75,.ld false 1 (.tmp 74),none⟩,
 ⟨some 76,.mov (.tmp 16),none⟩,
 ⟨some 77,.maxi (.tmp 75) (.tmp 76),none⟩,
 ⟨some 78,.ixp 5 1 (.tmp 8) (.tmp 66),none⟩,
 ⟨none,.st 1 (.tmp 78) (.tmp 72),none⟩,
 ⟨some 79,.ixp 5 1 (.tmp 9) (.tmp 67),none⟩,
 ⟨none,.st 1 (.tmp 79) (.tmp 77),none⟩] [(0,1),(0,2),(1,2),(0,3),(1,3),(0,4),(1,4),(0,5),(1,5),(2,5),(3,5),(4,5),(0,6),(1,6),(0,7),(1,7),(2,7),(3,7),(4,7),(5,7),(6,7),(0,8),(1,8),(2,8),(3,8),(4,8),(5,8),(6,8),(0,9),(1,9),(2,9),(3,9),(4,9),(5,9),(6,9),(0,10),(1,10),(2,10),(3,10),(4,10),(5,10),(6,10),(7,10),(8,10),(9,10),(0,11),(1,11),(2,11),(3,11),(4,11),(5,11),(6,11),(1,12),(7,12),(8,12),(9,12),(10,12),(11,12),(1,13),(7,13),(8,13),(9,13),(10,13),(11,13)])))
 (.reg [] [⟨some 80,.arith .add .i64 (.tmp 62) (.cst (.d (.int .i64 1))),none⟩,
 ⟨some 62,.mov (.tmp 80),none⟩])))))))))
def jr133:AFun:=⟨99,5,[.tmp 6,.tmp 7],
 (.seq
 (.reg [] [⟨some 6,.mov (.cst (.nils 2)),none⟩,
  ⟨some 7,.mov (.cst (.d (.bool false))),none⟩])
 (.seq
  (.reg [0,1] [⟨some 8,.alloc 0 [(.d (.int .i64 0)),(.d (.int .i64 0)),(.d (.int .i64 0)),(.d (.int .i64 0)),(.d (.int .i64 0))],none⟩,
   ⟨some 9,.alloc 1 [(.d (.int .i64 0)),(.d (.int .i64 0)),(.d (.int .i64 0)),(.d (.int .i64 0)),(.d (.int .i64 0))],none⟩])
  (.seq
  (.reg [] [⟨some 10,.mov (.cst (.d (.bool false))),none⟩])
  (.seq
   (.reg [] [⟨some 11,.mov (.cst (.d (.int .i64 1))),none⟩])
   (.seq
   (.seq
    (.reg [] [⟨some 19,.mov (.tmp 0),none⟩,
     ⟨some 20,.mov (.cst (.d (.int .i64 0))),none⟩])
    (.post [0,1,2,8,9,10,11] [0,1]
    (.block 0
     (.keep [0,1,2,8,9,10,11,19,20] [0,1]
     (.loop
      (.post [0,1,2,8,9,10,11,19,20] []
      (.seq
       (.reg [] [⟨some 21,.cmp .lss (.tmp 20) (.tmp 19),none⟩])
       (.seq
       (.cond (.tmp 21)
        .skip
        (.exit 0))
       (.seq
        (.block 1
        (.reg [] [⟨some 22,.mov (.tmp 11),none⟩,
         ⟨some 23,.mov (.tmp 1),none⟩,
         ⟨some 24,.arith .add .i64 (.tmp 23) (.cst (.d (.int .i64 1))),none⟩,
         ⟨some 25,.arith .mul .i64 (.tmp 22) (.tmp 24),none⟩,
         ⟨some 11,.mov (.tmp 25),none⟩]))
        (.reg [] [⟨some 26,.arith .add .i64 (.tmp 20) (.cst (.d (.int .i64 1))),none⟩,
         ⟨some 20,.mov (.tmp 26),none⟩]))))))))))
   (.seq
    (.seq
    (.reg [] [⟨some 27,.mov (.tmp 11),none⟩,
     ⟨some 28,.mov (.cst (.d (.int .i64 0))),none⟩])
    (.post [0,8,9,10] [0,1,2]
     (.block 2
     (.keep [0,1,2,8,9,10,27,28] [0,1]
      (.loop
      (.post [0,1,2,8,9,10,27,28] [2]
       (.seq
       (.reg [] [⟨some 29,.cmp .lss (.tmp 28) (.tmp 27),none⟩])
       (.seq
        (.cond (.tmp 29)
        .skip
        (.exit 2))
        (.seq
        (.block 3
         (.seq
         (.reg [] [⟨some 30,.mov (.tmp 28),none⟩,
          ⟨some 12,.mov (.tmp 30),none⟩])
         (.seq
          (.reg [2] [⟨some 13,.alloc 2 [(.d (.int .i64 0)),(.d (.int .i64 0)),(.d (.int .i64 0)),(.d (.int .i64 0)),(.d (.int .i64 0))],none⟩])
          (.seq
          (.seq
           (.reg [] [⟨some 31,.mov (.tmp 0),none⟩,
            ⟨some 32,.mov (.cst (.d (.int .i64 0))),none⟩])
           (.keep [0,1,2,8,9,10,12,13,27,28,31,32] [] seg133a))
          (.seq
           (.seq
           (.reg [] [⟨some 46,.mov (.tmp 2),none⟩,
            ⟨some 47,.mkf (.func 173) [] [(.tmp 13)],none⟩,
            ⟨some 48,.call 172 [(.tmp 46),(.tmp 47)],none⟩])
           (.cond (.tmp 48)
            (.exit 3)
            .skip))
           (.seq
           (.seq
            (.reg [] [⟨some 49,.mov (.tmp 10),none⟩,
             ⟨some 50,.not (.tmp 49),none⟩])
            (.cond (.tmp 50)
            (.regd [] [⟨some 51,.ld true 5 (.tmp 13),none⟩,
             ⟨some 52,.ld true 5 (.tmp 13),none⟩,
             ⟨none,.st 5 (.tmp 8) (.tmp 51),none⟩,
             ⟨none,.st 5 (.tmp 9) (.tmp 52),none⟩,
             ⟨some 10,.mov (.cst (.d (.bool true))),none⟩] [(0,1),(1,2)])
            .skip))
           (.seq
            (.seq
            (.reg [] [⟨some 53,.ld true 5 (.tmp 13),none⟩,
             ⟨some 54,.ld true 5 (.tmp 8),none⟩,
             ⟨some 55,.aeq false [0,0,0,0,0] (.tmp 53) (.tmp 54),none⟩,
             ⟨some 56,.mov (.tmp 55),none⟩,
             ⟨some 57,.ld true 5 (.tmp 13),some (56,true)⟩,
             ⟨some 58,.ld true 5 (.tmp 9),some (56,true)⟩,
             ⟨some 59,.aeq false [0,0,0,0,0] (.tmp 57) (.tmp 58),some (56,true)⟩,
             ⟨some 60,.pick (.tmp 56) (.tmp 59) (.cst (.d (.bool false))),none⟩])
            (.cond (.tmp 60)
             (.exit 3)
             .skip))
            (.seq
            (.reg [] [⟨some 61,.ld true 5 (.tmp 13),none⟩,
             ⟨some 62,.mov (.cst (.d (.int .i64 0))),none⟩])
            (.keep [0,1,2,8,9,10,27,28,61,62] [] seg133f)))))))))
        (.reg [] [⟨some 81,.arith .add .i64 (.tmp 28) (.cst (.d (.int .i64 1))),none⟩,
         ⟨some 28,.mov (.tmp 81),none⟩]))))))))))
    (.seq
    (.reg [] [⟨some 17,.mov (.cst (.nils 2)),none⟩])
    (.seq
     (.seq
     (.reg [] [⟨some 82,.mov (.tmp 0),none⟩,
      ⟨some 83,.mov (.cst (.d (.int .i64 0))),none⟩])
     (.post [10,17] [0,1,2,3,4]
      (.block 8
      (.asrow 4 84 2 17
       (.keep [8,9,10,17,82,83] [0,1,2]
       (.loop
        (.post [8,9,10,17,82,83] [3,4]
        (.seq
         (.reg [] [⟨some 84,.cmp .lss (.tmp 83) (.tmp 82),none⟩])
         (.seq
         (.cond (.tmp 84)
          .skip
          (.exit 8))
         (.seq
          (.block 9
          (.seq
           (.reg [] [⟨some 85,.mov (.tmp 83),none⟩,
            ⟨some 18,.mov (.tmp 85),none⟩])
           (.regd [3,4] [⟨some 86,.mov (.tmp 17),none⟩,
            ⟨some 87,.mov (.tmp 18),none⟩,
            ⟨some 88,.ixp 5 1 (.tmp 8) (.tmp 87),none⟩,
            ⟨some 89,.ld false 1 (.tmp 88),none⟩,
            ⟨some 90,.mov (.tmp 18),none⟩,
            ⟨some 91,.ixp 5 1 (.tmp 9) (.tmp 90),none⟩,
            ⟨some 92,.ld false 1 (.tmp 91),none⟩,
            ⟨some 93,.build [(.d (.int .i64 0)),(.d (.int .i64 0))] [(0,1,(.tmp 89)),(1,1,(.tmp 92))],none⟩,
            ⟨some 94,.bsl 3 84 2 1 [(.agg [(.int .i64 0),(.int .i64 0)])] [(0,(.tmp 93))],none⟩,
            ⟨some 95,.app 4 84 2 16 (.tmp 86) (.tmp 94),none⟩,
            ⟨some 17,.mov (.tmp 95),none⟩] [(0,1),(0,2),(0,3),(0,4),(1,4),(2,4),(3,4),(0,5),(1,5),(2,5),(3,5),(0,6),(1,6),(2,6),(3,6),(0,7),(0,8)])))
          (.reg [] [⟨some 96,.arith .add .i64 (.tmp 83) (.cst (.d (.int .i64 1))),none⟩,
           ⟨some 83,.mov (.tmp 96),none⟩])))))))))))
     (.seq
     (.reg [] [⟨some 97,.mov (.tmp 17),none⟩,
      ⟨some 98,.mov (.tmp 10),none⟩,
      ⟨some 6,.mov (.tmp 97),none⟩,
      ⟨some 7,.mov (.tmp 98),none⟩])
     .ret)))))))))⟩
theorem v133a {N:Nat} {h w m n q p:Int} {L:List Data} {f:Bool} {a0 a1 a2 a3 a4 b0 b1 b2 b3 b4:Int} (hh:1≤h∧h≤5) (hm:m=w+1) (hw:1≤w∧w≤7) (hn:0≤n∧n≤1000000) {Q:AExit→St→Prop} (hQ:Q .normal ⟨[(0,.d (.int .i64 h)),(1,.d (.int .i64 w)),(2,.d (.slice 2 L)),(8,.ptr 0 0),(9,.ptr 1 0),(10,.d (.bool f)),(13,.ptr 2 0),(27,.d (.int .i64 q)),(28,.d (.int .i64 p))],[.box [.d (.int .i64 (a0)),.d (.int .i64 (a1)),.d (.int .i64 (a2)),.d (.int .i64 (a3)),.d (.int .i64 (a4))],.box [.d (.int .i64 (b0)),.d (.int .i64 (b1)),.d (.int .i64 (b2)),.d (.int .i64 (b3)),.d (.int .i64 (b4))],.box [.d (.int .i64 (dg m n h.toNat 0)),.d (.int .i64 (dg m n h.toNat 1)),.d (.int .i64 (dg m n h.toNat 2)),.d (.int .i64 (dg m n h.toNat 3)),.d (.int .i64 (dg m n h.toNat 4))],.none,.none]⟩):vc Tryz.prog N seg133a ⟨[(0,.d (.int .i64 h)),(1,.d (.int .i64 w)),(2,.d (.slice 2 L)),(8,.ptr 0 0),(9,.ptr 1 0),(10,.d (.bool f)),(12,.d (.int .i64 n)),(13,.ptr 2 0),(27,.d (.int .i64 q)),(28,.d (.int .i64 p)),(31,.d (.int .i64 h)),(32,.d (.int .i64 0))],[.box [.d (.int .i64 (a0)),.d (.int .i64 (a1)),.d (.int .i64 (a2)),.d (.int .i64 (a3)),.d (.int .i64 (a4))],.box [.d (.int .i64 (b0)),.d (.int .i64 (b1)),.d (.int .i64 (b2)),.d (.int .i64 (b3)),.d (.int .i64 (b4))],.box [.d (.int .i64 (0)),.d (.int .i64 (0)),.d (.int .i64 (0)),.d (.int .i64 (0)),.d (.int .i64 (0))],.none,.none]⟩ Q:=by
 unfold seg133a
 refine loop_st (fun k:Nat=>⟨[(0,.d (.int .i64 h)),(1,.d (.int .i64 w)),(2,.d (.slice 2 L)),(8,.ptr 0 0),(9,.ptr 1 0),(10,.d (.bool f)),(12,.d (.int .i64 (restN m n k))),(13,.ptr 2 0),(27,.d (.int .i64 q)),(28,.d (.int .i64 p)),(31,.d (.int .i64 h)),(32,.d (.int .i64 (k:Nat)))],[.box [.d (.int .i64 (a0)),.d (.int .i64 (a1)),.d (.int .i64 (a2)),.d (.int .i64 (a3)),.d (.int .i64 (a4))],.box [.d (.int .i64 (b0)),.d (.int .i64 (b1)),.d (.int .i64 (b2)),.d (.int .i64 (b3)),.d (.int .i64 (b4))],.box [.d (.int .i64 (dg m n k 0)),.d (.int .i64 (dg m n k 1)),.d (.int .i64 (dg m n k 2)),.d (.int .i64 (dg m n k 3)),.d (.int .i64 (dg m n k 4))],.none,.none]⟩) (fun k=>(k:Int)≤h) (fun k=>h.toNat - k) 0 rfl (by show ((0:Nat):Int)≤h; omega) ?_
 intro k hk
 have hk:(k:Int)≤h:=hk
 have hr:=restN_rng (m:=m) (by omega) hn.1 k
 dsimp only
 by_cases hkn:(k:Int) < h
 ·have hm1:1≤m:=by omega
  have hk5:k=0∨k=1∨k=2∨k=3∨k=4:=by omega
  have fin:∀ x0 x1 x2 x3 x4:Int,x0=dg m n (k+1) 0→x1=dg m n (k+1) 1→x2=dg m n (k+1) 2→x3=dg m n (k+1) 3→x4=dg m n (k+1) 4→∃ a':Nat,((a':Int)≤h∧h.toNat - a' < h.toNat - k)∧(⟨[(0,.d (.int .i64 h)),(1,.d (.int .i64 w)),(2,.d (.slice 2 L)),(8,.ptr 0 0),(9,.ptr 1 0),(10,.d (.bool f)),(12,.d (.int .i64 (restN m n k / m))),(13,.ptr 2 0),(27,.d (.int .i64 q)),(28,.d (.int .i64 p)),(31,.d (.int .i64 h)),(32,.d (.int .i64 ((k:Int)+1)))],[.box [.d (.int .i64 (a0)),.d (.int .i64 (a1)),.d (.int .i64 (a2)),.d (.int .i64 (a3)),.d (.int .i64 (a4))],.box [.d (.int .i64 (b0)),.d (.int .i64 (b1)),.d (.int .i64 (b2)),.d (.int .i64 (b3)),.d (.int .i64 (b4))],.box [.d (.int .i64 (x0)),.d (.int .i64 (x1)),.d (.int .i64 (x2)),.d (.int .i64 (x3)),.d (.int .i64 (x4))],.none,.none]⟩:St)=⟨[(0,.d (.int .i64 h)),(1,.d (.int .i64 w)),(2,.d (.slice 2 L)),(8,.ptr 0 0),(9,.ptr 1 0),(10,.d (.bool f)),(12,.d (.int .i64 (restN m n a'))),(13,.ptr 2 0),(27,.d (.int .i64 q)),(28,.d (.int .i64 p)),(31,.d (.int .i64 h)),(32,.d (.int .i64 (a':Nat)))],[.box [.d (.int .i64 (a0)),.d (.int .i64 (a1)),.d (.int .i64 (a2)),.d (.int .i64 (a3)),.d (.int .i64 (a4))],.box [.d (.int .i64 (b0)),.d (.int .i64 (b1)),.d (.int .i64 (b2)),.d (.int .i64 (b3)),.d (.int .i64 (b4))],.box [.d (.int .i64 (dg m n a' 0)),.d (.int .i64 (dg m n a' 1)),.d (.int .i64 (dg m n a' 2)),.d (.int .i64 (dg m n a' 3)),.d (.int .i64 (dg m n a' 4))],.none,.none]⟩:=fun x0 x1 x2 x3 x4 e0 e1 e2 e3 e4 =>
   ⟨k+1,⟨by omega,by omega⟩,by rw [e0,e1,e2,e3,e4]; rfl⟩
  subst hm
  rcases hk5 with rfl | rfl | rfl | rfl | rfl
  ·refine sd ?_
   refine b_lt (fun t1=>?_) (fun t1=>?_)
   refine ar_add ?_ ?_
   refine an ?_ ?_
   (show (-9223372036854775808:Int)≤w+(1:Int); omega)
   (show w+(1:Int)≤(9223372036854775807:Int); omega)
   refine ar_rem ?_ ?_
   refine an ?_ ?_
   (show (0:Int)≤restN (w+(1:Int)) n (0:Nat); omega)
   assumption
   refine an ?_ ?_
   refine an ?_ ?_
   (show (0:Int)≤(↑(0:Nat):Int); omega)
   (show (↑(0:Nat):Int) < (↑(5:Nat):Int); omega)
   refine ar_add ?_ ?_
   refine an ?_ ?_
   (show (-9223372036854775808:Int)≤w+(1:Int); omega)
   (show w+(1:Int)≤(9223372036854775807:Int); omega)
   refine ar_quo ?_ ?_
   refine an ?_ ?_
   (show (0:Int)≤restN (w+(1:Int)) n (0:Nat); omega)
   refine an ?_ ?_
   (show restN (w+(1:Int)) n (0:Nat)≤(9223372036854775807:Int); omega)
   assumption
   refine ar_add ?_ ?_
   refine an ?_ ?_
   (show (-9223372036854775808:Int)≤(↑(0:Nat):Int)+(1:Int); omega)
   (show (↑(0:Nat):Int)+(1:Int)≤(9223372036854775807:Int); omega)
   rotate_left
   (exfalso; omega)
   exact fin _ _ _ _ _ (dg_eq _ _ 0).symm (dg_ne _ _ (by decide)).symm (dg_ne _ _ (by decide)).symm (dg_ne _ _ (by decide)).symm (dg_ne _ _ (by decide)).symm
  ·refine sd ?_
   refine b_lt (fun t1=>?_) (fun t1=>?_)
   refine ar_add ?_ ?_
   refine an ?_ ?_
   (show (-9223372036854775808:Int)≤w+(1:Int); omega)
   (show w+(1:Int)≤(9223372036854775807:Int); omega)
   refine ar_rem ?_ ?_
   refine an ?_ ?_
   (show (0:Int)≤restN (w+(1:Int)) n (1:Nat); omega)
   assumption
   refine an ?_ ?_
   refine an ?_ ?_
   (show (0:Int)≤(↑(1:Nat):Int); omega)
   (show (↑(1:Nat):Int) < (↑(5:Nat):Int); omega)
   refine ar_add ?_ ?_
   refine an ?_ ?_
   (show (-9223372036854775808:Int)≤w+(1:Int); omega)
   (show w+(1:Int)≤(9223372036854775807:Int); omega)
   refine ar_quo ?_ ?_
   refine an ?_ ?_
   (show (0:Int)≤restN (w+(1:Int)) n (1:Nat); omega)
   refine an ?_ ?_
   (show restN (w+(1:Int)) n (1:Nat)≤(9223372036854775807:Int); omega)
   assumption
   refine ar_add ?_ ?_
   refine an ?_ ?_
   (show (-9223372036854775808:Int)≤(↑(1:Nat):Int)+(1:Int); omega)
   (show (↑(1:Nat):Int)+(1:Int)≤(9223372036854775807:Int); omega)
   rotate_left
   (exfalso; omega)
   exact fin _ _ _ _ _ (dg_ne _ _ (by decide)).symm (dg_eq _ _ 1).symm (dg_ne _ _ (by decide)).symm (dg_ne _ _ (by decide)).symm (dg_ne _ _ (by decide)).symm
  ·refine sd ?_
   refine b_lt (fun t1=>?_) (fun t1=>?_)
   refine ar_add ?_ ?_
   refine an ?_ ?_
   (show (-9223372036854775808:Int)≤w+(1:Int); omega)
   (show w+(1:Int)≤(9223372036854775807:Int); omega)
   refine ar_rem ?_ ?_
   refine an ?_ ?_
   (show (0:Int)≤restN (w+(1:Int)) n (2:Nat); omega)
   assumption
   refine an ?_ ?_
   refine an ?_ ?_
   (show (0:Int)≤(↑(2:Nat):Int); omega)
   (show (↑(2:Nat):Int) < (↑(5:Nat):Int); omega)
   refine ar_add ?_ ?_
   refine an ?_ ?_
   (show (-9223372036854775808:Int)≤w+(1:Int); omega)
   (show w+(1:Int)≤(9223372036854775807:Int); omega)
   refine ar_quo ?_ ?_
   refine an ?_ ?_
   (show (0:Int)≤restN (w+(1:Int)) n (2:Nat); omega)
   refine an ?_ ?_
   (show restN (w+(1:Int)) n (2:Nat)≤(9223372036854775807:Int); omega)
   assumption
   refine ar_add ?_ ?_
   refine an ?_ ?_
   (show (-9223372036854775808:Int)≤(↑(2:Nat):Int)+(1:Int); omega)
   (show (↑(2:Nat):Int)+(1:Int)≤(9223372036854775807:Int); omega)
   rotate_left
   (exfalso; omega)
   exact fin _ _ _ _ _ (dg_ne _ _ (by decide)).symm (dg_ne _ _ (by decide)).symm (dg_eq _ _ 2).symm (dg_ne _ _ (by decide)).symm (dg_ne _ _ (by decide)).symm
  ·refine sd ?_
   refine b_lt (fun t1=>?_) (fun t1=>?_)
   refine ar_add ?_ ?_
   refine an ?_ ?_
   (show (-9223372036854775808:Int)≤w+(1:Int); omega)
   (show w+(1:Int)≤(9223372036854775807:Int); omega)
   refine ar_rem ?_ ?_
   refine an ?_ ?_
   (show (0:Int)≤restN (w+(1:Int)) n (3:Nat); omega)
   assumption
   refine an ?_ ?_
   refine an ?_ ?_
   (show (0:Int)≤(↑(3:Nat):Int); omega)
   (show (↑(3:Nat):Int) < (↑(5:Nat):Int); omega)
   refine ar_add ?_ ?_
   refine an ?_ ?_
   (show (-9223372036854775808:Int)≤w+(1:Int); omega)
   (show w+(1:Int)≤(9223372036854775807:Int); omega)
   refine ar_quo ?_ ?_
   refine an ?_ ?_
   (show (0:Int)≤restN (w+(1:Int)) n (3:Nat); omega)
   refine an ?_ ?_
   (show restN (w+(1:Int)) n (3:Nat)≤(9223372036854775807:Int); omega)
   assumption
   refine ar_add ?_ ?_
   refine an ?_ ?_
   (show (-9223372036854775808:Int)≤(↑(3:Nat):Int)+(1:Int); omega)
   (show (↑(3:Nat):Int)+(1:Int)≤(9223372036854775807:Int); omega)
   rotate_left
   (exfalso; omega)
   exact fin _ _ _ _ _ (dg_ne _ _ (by decide)).symm (dg_ne _ _ (by decide)).symm (dg_ne _ _ (by decide)).symm (dg_eq _ _ 3).symm (dg_ne _ _ (by decide)).symm
  ·refine sd ?_
   refine b_lt (fun t1=>?_) (fun t1=>?_)
   refine ar_add ?_ ?_
   refine an ?_ ?_
   (show (-9223372036854775808:Int)≤w+(1:Int); omega)
   (show w+(1:Int)≤(9223372036854775807:Int); omega)
   refine ar_rem ?_ ?_
   refine an ?_ ?_
   (show (0:Int)≤restN (w+(1:Int)) n (4:Nat); omega)
   assumption
   refine an ?_ ?_
   refine an ?_ ?_
   (show (0:Int)≤(↑(4:Nat):Int); omega)
   (show (↑(4:Nat):Int) < (↑(5:Nat):Int); omega)
   refine ar_add ?_ ?_
   refine an ?_ ?_
   (show (-9223372036854775808:Int)≤w+(1:Int); omega)
   (show w+(1:Int)≤(9223372036854775807:Int); omega)
   refine ar_quo ?_ ?_
   refine an ?_ ?_
   (show (0:Int)≤restN (w+(1:Int)) n (4:Nat); omega)
   refine an ?_ ?_
   (show restN (w+(1:Int)) n (4:Nat)≤(9223372036854775807:Int); omega)
   assumption
   refine ar_add ?_ ?_
   refine an ?_ ?_
   (show (-9223372036854775808:Int)≤(↑(4:Nat):Int)+(1:Int); omega)
   (show (↑(4:Nat):Int)+(1:Int)≤(9223372036854775807:Int); omega)
   rotate_left
   (exfalso; omega)
   exact fin _ _ _ _ _ (dg_ne _ _ (by decide)).symm (dg_ne _ _ (by decide)).symm (dg_ne _ _ (by decide)).symm (dg_ne _ _ (by decide)).symm (dg_eq _ _ 4).symm
 ·have e:k=h.toNat:=by omega
  subst e
  refine sd ?_
  refine b_lt (fun t1=>?_) (fun t1=>?_)
  (exfalso; omega)
  rotate_left
  exact hQ
theorem v133f {N:Nat} {h w q p:Int} {L:List Data} {f:Bool} {a0 a1 a2 a3 a4 b0 b1 b2 b3 b4 d0 d1 d2 d3 d4:Int} {Q:AExit→St→Prop} (hQ:Q .normal ⟨[(0,.d (.int .i64 h)),(1,.d (.int .i64 w)),(2,.d (.slice 2 L)),(8,.ptr 0 0),(9,.ptr 1 0),(10,.d (.bool f)),(27,.d (.int .i64 q)),(28,.d (.int .i64 p))],[.box [.d (.int .i64 (min a0 d0)),.d (.int .i64 (min a1 d1)),.d (.int .i64 (min a2 d2)),.d (.int .i64 (min a3 d3)),.d (.int .i64 (min a4 d4))],.box [.d (.int .i64 (max b0 d0)),.d (.int .i64 (max b1 d1)),.d (.int .i64 (max b2 d2)),.d (.int .i64 (max b3 d3)),.d (.int .i64 (max b4 d4))],.none,.none,.none]⟩):vc Tryz.prog N seg133f ⟨[(0,.d (.int .i64 h)),(1,.d (.int .i64 w)),(2,.d (.slice 2 L)),(8,.ptr 0 0),(9,.ptr 1 0),(10,.d (.bool f)),(27,.d (.int .i64 q)),(28,.d (.int .i64 p)),(61,.d (.agg [.int .i64 d0,.int .i64 d1,.int .i64 d2,.int .i64 d3,.int .i64 d4])),(62,.d (.int .i64 0))],[.box [.d (.int .i64 (a0)),.d (.int .i64 (a1)),.d (.int .i64 (a2)),.d (.int .i64 (a3)),.d (.int .i64 (a4))],.box [.d (.int .i64 (b0)),.d (.int .i64 (b1)),.d (.int .i64 (b2)),.d (.int .i64 (b3)),.d (.int .i64 (b4))],.cbox [.int .i64 d0,.int .i64 d1,.int .i64 d2,.int .i64 d3,.int .i64 d4],.none,.none]⟩ Q:=by
 unfold seg133f
 refine loop_st (fun k:Nat=>(match k with | 0=>⟨[(0,.d (.int .i64 h)),(1,.d (.int .i64 w)),(2,.d (.slice 2 L)),(8,.ptr 0 0),(9,.ptr 1 0),(10,.d (.bool f)),(27,.d (.int .i64 q)),(28,.d (.int .i64 p)),(61,.d (.agg [.int .i64 d0,.int .i64 d1,.int .i64 d2,.int .i64 d3,.int .i64 d4])),(62,.d (.int .i64 0))],[.box [.d (.int .i64 (a0)),.d (.int .i64 (a1)),.d (.int .i64 (a2)),.d (.int .i64 (a3)),.d (.int .i64 (a4))],.box [.d (.int .i64 (b0)),.d (.int .i64 (b1)),.d (.int .i64 (b2)),.d (.int .i64 (b3)),.d (.int .i64 (b4))],.none,.none,.none]⟩ | 1=>⟨[(0,.d (.int .i64 h)),(1,.d (.int .i64 w)),(2,.d (.slice 2 L)),(8,.ptr 0 0),(9,.ptr 1 0),(10,.d (.bool f)),(27,.d (.int .i64 q)),(28,.d (.int .i64 p)),(61,.d (.agg [.int .i64 d0,.int .i64 d1,.int .i64 d2,.int .i64 d3,.int .i64 d4])),(62,.d (.int .i64 1))],[.box [.d (.int .i64 ((min a0 d0))),.d (.int .i64 (a1)),.d (.int .i64 (a2)),.d (.int .i64 (a3)),.d (.int .i64 (a4))],.box [.d (.int .i64 ((max b0 d0))),.d (.int .i64 (b1)),.d (.int .i64 (b2)),.d (.int .i64 (b3)),.d (.int .i64 (b4))],.none,.none,.none]⟩ | 2=>⟨[(0,.d (.int .i64 h)),(1,.d (.int .i64 w)),(2,.d (.slice 2 L)),(8,.ptr 0 0),(9,.ptr 1 0),(10,.d (.bool f)),(27,.d (.int .i64 q)),(28,.d (.int .i64 p)),(61,.d (.agg [.int .i64 d0,.int .i64 d1,.int .i64 d2,.int .i64 d3,.int .i64 d4])),(62,.d (.int .i64 2))],[.box [.d (.int .i64 ((min a0 d0))),.d (.int .i64 ((min a1 d1))),.d (.int .i64 (a2)),.d (.int .i64 (a3)),.d (.int .i64 (a4))],.box [.d (.int .i64 ((max b0 d0))),.d (.int .i64 ((max b1 d1))),.d (.int .i64 (b2)),.d (.int .i64 (b3)),.d (.int .i64 (b4))],.none,.none,.none]⟩ | 3=>⟨[(0,.d (.int .i64 h)),(1,.d (.int .i64 w)),(2,.d (.slice 2 L)),(8,.ptr 0 0),(9,.ptr 1 0),(10,.d (.bool f)),(27,.d (.int .i64 q)),(28,.d (.int .i64 p)),(61,.d (.agg [.int .i64 d0,.int .i64 d1,.int .i64 d2,.int .i64 d3,.int .i64 d4])),(62,.d (.int .i64 3))],[.box [.d (.int .i64 ((min a0 d0))),.d (.int .i64 ((min a1 d1))),.d (.int .i64 ((min a2 d2))),.d (.int .i64 (a3)),.d (.int .i64 (a4))],.box [.d (.int .i64 ((max b0 d0))),.d (.int .i64 ((max b1 d1))),.d (.int .i64 ((max b2 d2))),.d (.int .i64 (b3)),.d (.int .i64 (b4))],.none,.none,.none]⟩ | 4=>⟨[(0,.d (.int .i64 h)),(1,.d (.int .i64 w)),(2,.d (.slice 2 L)),(8,.ptr 0 0),(9,.ptr 1 0),(10,.d (.bool f)),(27,.d (.int .i64 q)),(28,.d (.int .i64 p)),(61,.d (.agg [.int .i64 d0,.int .i64 d1,.int .i64 d2,.int .i64 d3,.int .i64 d4])),(62,.d (.int .i64 4))],[.box [.d (.int .i64 ((min a0 d0))),.d (.int .i64 ((min a1 d1))),.d (.int .i64 ((min a2 d2))),.d (.int .i64 ((min a3 d3))),.d (.int .i64 (a4))],.box [.d (.int .i64 ((max b0 d0))),.d (.int .i64 ((max b1 d1))),.d (.int .i64 ((max b2 d2))),.d (.int .i64 ((max b3 d3))),.d (.int .i64 (b4))],.none,.none,.none]⟩ | _=>⟨[(0,.d (.int .i64 h)),(1,.d (.int .i64 w)),(2,.d (.slice 2 L)),(8,.ptr 0 0),(9,.ptr 1 0),(10,.d (.bool f)),(27,.d (.int .i64 q)),(28,.d (.int .i64 p)),(61,.d (.agg [.int .i64 d0,.int .i64 d1,.int .i64 d2,.int .i64 d3,.int .i64 d4])),(62,.d (.int .i64 5))],[.box [.d (.int .i64 ((min a0 d0))),.d (.int .i64 ((min a1 d1))),.d (.int .i64 ((min a2 d2))),.d (.int .i64 ((min a3 d3))),.d (.int .i64 ((min a4 d4)))],.box [.d (.int .i64 ((max b0 d0))),.d (.int .i64 ((max b1 d1))),.d (.int .i64 ((max b2 d2))),.d (.int .i64 ((max b3 d3))),.d (.int .i64 ((max b4 d4)))],.none,.none,.none]⟩:St)) (fun k=>k≤5) (fun k=>5 - k) 0 rfl (by decide) ?_
 intro k hk
 have hk:k≤5:=hk
 have hk5:k=0∨k=1∨k=2∨k=3∨k=4∨k=5:=by omega
 rcases hk5 with rfl | rfl | rfl | rfl | rfl | rfl <;> dsimp only
 ·refine sd ?_
  refine an ?_ ?_
  refine an ?_ ?_
  (show (0:Int)≤(0:Int); omega)
  (show (0:Int) < (↑(5:Nat):Int); omega)
  refine an ?_ ?_
  refine an ?_ ?_
  (show (0:Int)≤(0:Int); omega)
  (show (0:Int) < (↑(5:Nat):Int); omega)
  refine sd ?_
  refine an ?_ ?_
  refine an ?_ ?_
  (show (0:Int)≤(0:Int); omega)
  (show (0:Int) < (↑(5:Nat):Int); omega)
  refine sd ?_
  refine an ?_ ?_
  refine an ?_ ?_
  (show (0:Int)≤(0:Int); omega)
  (show (0:Int) < (↑(5:Nat):Int); omega)
  refine an ?_ ?_
  refine an ?_ ?_
  (show (0:Int)≤(0:Int); omega)
  (show (0:Int) < (↑(5:Nat):Int); omega)
  refine ar_add ?_ ?_
  refine an ?_ ?_
  (show (-9223372036854775808:Int)≤(0:Int)+(1:Int); omega)
  (show (0:Int)+(1:Int)≤(9223372036854775807:Int); omega)
  rotate_left
  exact ⟨1,⟨by decide,by decide⟩,rfl⟩
 ·refine sd ?_
  refine an ?_ ?_
  refine an ?_ ?_
  (show (0:Int)≤(1:Int); omega)
  (show (1:Int) < (↑(5:Nat):Int); omega)
  refine an ?_ ?_
  refine an ?_ ?_
  (show (0:Int)≤(1:Int); omega)
  (show (1:Int) < (↑(5:Nat):Int); omega)
  refine sd ?_
  refine an ?_ ?_
  refine an ?_ ?_
  (show (0:Int)≤(1:Int); omega)
  (show (1:Int) < (↑(5:Nat):Int); omega)
  refine sd ?_
  refine an ?_ ?_
  refine an ?_ ?_
  (show (0:Int)≤(1:Int); omega)
  (show (1:Int) < (↑(5:Nat):Int); omega)
  refine an ?_ ?_
  refine an ?_ ?_
  (show (0:Int)≤(1:Int); omega)
  (show (1:Int) < (↑(5:Nat):Int); omega)
  refine ar_add ?_ ?_
  refine an ?_ ?_
  (show (-9223372036854775808:Int)≤(1:Int)+(1:Int); omega)
  (show (1:Int)+(1:Int)≤(9223372036854775807:Int); omega)
  rotate_left
  exact ⟨2,⟨by decide,by decide⟩,rfl⟩
 ·refine sd ?_
  refine an ?_ ?_
  refine an ?_ ?_
  (show (0:Int)≤(2:Int); omega)
  (show (2:Int) < (↑(5:Nat):Int); omega)
  refine an ?_ ?_
  refine an ?_ ?_
  (show (0:Int)≤(2:Int); omega)
  (show (2:Int) < (↑(5:Nat):Int); omega)
  refine sd ?_
  refine an ?_ ?_
  refine an ?_ ?_
  (show (0:Int)≤(2:Int); omega)
  (show (2:Int) < (↑(5:Nat):Int); omega)
  refine sd ?_
  refine an ?_ ?_
  refine an ?_ ?_
  (show (0:Int)≤(2:Int); omega)
  (show (2:Int) < (↑(5:Nat):Int); omega)
  refine an ?_ ?_
  refine an ?_ ?_
  (show (0:Int)≤(2:Int); omega)
  (show (2:Int) < (↑(5:Nat):Int); omega)
  refine ar_add ?_ ?_
  refine an ?_ ?_
  (show (-9223372036854775808:Int)≤(2:Int)+(1:Int); omega)
  (show (2:Int)+(1:Int)≤(9223372036854775807:Int); omega)
  rotate_left
  exact ⟨3,⟨by decide,by decide⟩,rfl⟩
 ·refine sd ?_
  refine an ?_ ?_
  refine an ?_ ?_
  (show (0:Int)≤(3:Int); omega)
  (show (3:Int) < (↑(5:Nat):Int); omega)
  refine an ?_ ?_
  refine an ?_ ?_
  (show (0:Int)≤(3:Int); omega)
  (show (3:Int) < (↑(5:Nat):Int); omega)
  refine sd ?_
  refine an ?_ ?_
  refine an ?_ ?_
  (show (0:Int)≤(3:Int); omega)
  (show (3:Int) < (↑(5:Nat):Int); omega)
  refine sd ?_
  refine an ?_ ?_
  refine an ?_ ?_
  (show (0:Int)≤(3:Int); omega)
  (show (3:Int) < (↑(5:Nat):Int); omega)
  refine an ?_ ?_
  refine an ?_ ?_
  (show (0:Int)≤(3:Int); omega)
  (show (3:Int) < (↑(5:Nat):Int); omega)
  refine ar_add ?_ ?_
  refine an ?_ ?_
  (show (-9223372036854775808:Int)≤(3:Int)+(1:Int); omega)
  (show (3:Int)+(1:Int)≤(9223372036854775807:Int); omega)
  rotate_left
  exact ⟨4,⟨by decide,by decide⟩,rfl⟩
 ·refine sd ?_
  refine an ?_ ?_
  refine an ?_ ?_
  (show (0:Int)≤(4:Int); omega)
  (show (4:Int) < (↑(5:Nat):Int); omega)
  refine an ?_ ?_
  refine an ?_ ?_
  (show (0:Int)≤(4:Int); omega)
  (show (4:Int) < (↑(5:Nat):Int); omega)
  refine sd ?_
  refine an ?_ ?_
  refine an ?_ ?_
  (show (0:Int)≤(4:Int); omega)
  (show (4:Int) < (↑(5:Nat):Int); omega)
  refine sd ?_
  refine an ?_ ?_
  refine an ?_ ?_
  (show (0:Int)≤(4:Int); omega)
  (show (4:Int) < (↑(5:Nat):Int); omega)
  refine an ?_ ?_
  refine an ?_ ?_
  (show (0:Int)≤(4:Int); omega)
  (show (4:Int) < (↑(5:Nat):Int); omega)
  refine ar_add ?_ ?_
  refine an ?_ ?_
  (show (-9223372036854775808:Int)≤(4:Int)+(1:Int); omega)
  (show (4:Int)+(1:Int)≤(9223372036854775807:Int); omega)
  rotate_left
  exact ⟨5,⟨by decide,by decide⟩,rfl⟩
 ·refine sd ?_
  rotate_left
  exact hQ
theorem mn_eq {a d x:Int} (p:d=a) (h:x=min a d):a=x:=by rw [h,p]; omega
theorem mx_eq {a d x:Int} (p:d=a) (h:x=max a d):a=x:=by rw [h,p]; omega
theorem eq5 {x0 x1 x2 x3 x4 y0 y1 y2 y3 y4:Int} (h:(x0==y0&&(x1==y1&&(x2==y2&&(x3==y3&&(x4==y4&&true)))))=true):x0=y0∧x1=y1∧x2=y2∧x3=y3∧x4=y4:=by
 simpa using h
theorem dg5_rng {m n:Int} {h:Nat} (hm:1≤m) (hm8:m≤8) (hn:0≤n):∀ y∈([dg m n h 0,dg m n h 1,dg m n h 2,dg m n h 3,dg m n h 4]:List Int),0≤y∧y≤7:=fun y hy=>by
 have hg:∀ j,0≤dg m n h j∧dg m n h j≤7:=fun j=>by
  unfold dg
  cases hx:(digN m n h)[j]? with
  | none=>exact ⟨Int.le_refl _,by decide⟩
  | some x=>have:=digN_rng hm hn h x (List.mem_of_getElem? hx); show 0≤x∧x≤7; omega
 simp only [List.mem_cons,List.not_mem_nil,or_false] at hy
 rcases hy with rfl | rfl | rfl | rfl | rfl <;> exact hg _
def lowAt (m:Int) (h:Nat) (l:List An) (n j:Nat):Int:=match kn m h l n with
 | none=>0
 | some o=>o.1[j]?.getD 0
def highAt (m:Int) (h:Nat) (l:List An) (n j:Nat):Int:=match kn m h l n with
 | none=>0
 | some o=>o.2[j]?.getD 0
def fndB (m:Int) (h:Nat) (l:List An) (n:Nat):Bool:=(kn m h l n).isSome
theorem kn_no {m:Int} {h:Nat} {l:List An} {n:Nat} (e:rightB (digN m n h) l=false):kn m h l (n+1)=kn m h l n:=by rw [kn,e]; rfl
theorem kn_new {m:Int} {h:Nat} {l:List An} {n:Nat} (e:rightB (digN m n h) l=true) (f:fndB m h l n=false):kn m h l (n+1)=some (digN m n h,digN m n h):=by
 unfold fndB at f
 rw [kn,e]
 cases hk:kn m h l n with
 | none=>rfl
 | some o=>rw [hk] at f; cases f
theorem zip_at (g:Int→Int→Int) (h0:g 0 0=0) {a b:List Int} (hl:a.length=b.length) (j:Nat):(List.zipWith g a b)[j]?.getD 0=g (a[j]?.getD 0) (b[j]?.getD 0):=by
 by_cases hj:j < a.length
 ·have hj2:j < b.length:=by omega
  rw [List.getElem?_eq_getElem (by rw [List.length_zipWith]; omega),List.getElem_zipWith,List.getElem?_eq_getElem hj,List.getElem?_eq_getElem hj2]; rfl
 ·rw [List.getElem?_eq_none (by rw [List.length_zipWith]; omega),List.getElem?_eq_none (by omega),List.getElem?_eq_none (by omega)]
  exact h0.symm
theorem kn_old {m : Int} {h : Nat} {l : List An} {n : Nat} (e : rightB (digN m n h) l = true) (f : fndB m h l n = true) :
  (∀ j,lowAt m h l (n+1) j=min (lowAt m h l n j) (dg m n h j))∧(∀ j,highAt m h l (n+1) j=max (highAt m h l n j) (dg m n h j))∧fndB m h l (n+1)=true:=by
 unfold fndB at f
 cases hk:kn m h l n with
 | none=>rw [hk] at f; cases f
 | some o =>
  have hl:=kn_len hk
  have hn:kn m h l (n+1)=some (zIv o.1 o.2 (digN m n h)):=by rw [kn,e,hk]; rfl
  refine ⟨fun j=>?_,fun j=>?_,by unfold fndB; rw [hn]; rfl⟩
  ·unfold lowAt; rw [hn,hk]
   exact zip_at min rfl (by rw [digN_len]; exact hl.1) j
  ·unfold highAt; rw [hn,hk]
   exact zip_at max rfl (by rw [digN_len]; exact hl.2) j
theorem low_new {m:Int} {h:Nat} {l:List An} {n:Nat} (e:rightB (digN m n h) l=true) (f:fndB m h l n=false) (j:Nat):lowAt m h l (n+1) j=dg m n h j∧highAt m h l (n+1) j=dg m n h j∧fndB m h l (n+1)=true:=by
 have hk:=kn_new e f
 unfold lowAt highAt fndB
 rw [hk]; exact ⟨rfl,rfl,rfl⟩
theorem low_no {m:Int} {h:Nat} {l:List An} {n:Nat} (e:rightB (digN m n h) l=false) (j:Nat):lowAt m h l (n+1) j=lowAt m h l n j∧highAt m h l (n+1) j=highAt m h l n j∧fndB m h l (n+1)=fndB m h l n:=by
 have hk:=kn_no e
 unfold lowAt highAt fndB
 rw [hk]; exact ⟨rfl,rfl,rfl⟩
theorem u5_at {m n:Int} {h:Nat} (hh:h≤5) (i:Int):uAt [dg m n h 0,dg m n h 1,dg m n h 2,dg m n h 3,dg m n h 4] i=uAt (digN m n h) i:=by
 unfold uAt
 generalize i.toNat=j
 match j with
 | 0=>rfl
 | 1=>rfl
 | 2=>rfl
 | 3=>rfl
 | 4=>rfl
 | j+5 =>
  rw [List.getElem?_eq_none (show (digN m n h).length≤j+5 by rw [digN_len]; omega)]; rfl
theorem wrong5 {m n:Int} {h:Nat} (hh:h≤5) (l:List An):l.any (wrongB [dg m n h 0,dg m n h 1,dg m n h 2,dg m n h 3,dg m n h 4])=!rightB (digN m n h) l:=by
 have e:uAt [dg m n h 0,dg m n h 1,dg m n h 2,dg m n h 3,dg m n h 4]=uAt (digN m n h):=funext (u5_at hh)
 unfold rightB wrongB
 rw [e]
 induction l with
 | nil=>rfl
 | cons x r ih =>
  rw [List.any_cons,List.all_cons,ih]
  cases h1:(sumL (uAt (digN m n h)) x.set==x.sum) <;> simp [bne,h1]
def kiv (m:Int) (h:Nat) (l:List An) (n k:Nat):List (Int × Int):=(List.range k).map fun j=>(lowAt m h l n j,highAt m h l n j)
theorem kiv_len (m:Int) (h:Nat) (l:List An) (n k:Nat):(kiv m h l n k).length=k:=by unfold kiv; rw [List.length_map,List.length_range]
theorem kiv_succ (m:Int) (h:Nat) (l:List An) (n k:Nat):ivs (kiv m h l n (k+1))=ivs (kiv m h l n k)++[Data.agg [.int .i64 (lowAt m h l n k),.int .i64 (highAt m h l n k)]]:=by
 unfold kiv ivs; rw [List.range_succ,List.map_append,List.map_append]; rfl
theorem c133 (h w:Int) (l:List An) (hh:1≤h∧h≤5) (hw:1≤w∧w≤7) (hl:l.length≤1048576) (hq:∀ x∈l,x.set.length≤1048576∧∀ i∈x.set,0≤i∧i < 5):CallDet Tryz.prog 133 [.d (.int .i64 h),.d (.int .i64 w),.d (.slice 2 (ans l))] [.slice 2 (ivs (kiv (w+1) h.toNat l (powN (w+1) h.toNat).toNat h.toNat)),.bool (fndB (w+1) h.toNat l (powN (w+1) h.toNat).toNat)]:=by
 have hlen:=ans_len l
 refine call_of_vc (x:=jr133) (by kernel_rfl) rfl ?_
 refine loop_st (fun k:Nat=>⟨[(0,.d (.int .i64 h)),(1,.d (.int .i64 w)),(2,.d (.slice 2 (ans l))),(8,.ptr 0 0),(9,.ptr 1 0),(10,.d (.bool false)),(11,.d (.int .i64 (powN (w+1) k))),(19,.d (.int .i64 h)),(20,.d (.int .i64 (k:Nat)))],[.box [.d (.int .i64 (0)),.d (.int .i64 (0)),.d (.int .i64 (0)),.d (.int .i64 (0)),.d (.int .i64 (0))],.box [.d (.int .i64 (0)),.d (.int .i64 (0)),.d (.int .i64 (0)),.d (.int .i64 (0)),.d (.int .i64 (0))],.none,.none,.none]⟩) (fun k=>(k:Int)≤h) (fun k=>h.toNat - k) 0 rfl (by show ((0:Nat):Int)≤h; omega) ?_
 intro k hk
 have hk:(k:Int)≤h:=hk
 dsimp only
 by_cases hkn:(k:Int) < h
 ·have hp:=powN_rng (m:=w+1) (by omega) (by omega) (i:=k+1) (by omega)
  have e:powN (w+1) (k+1)=powN (w+1) k * (w+1):=rfl
  rw [e] at hp
  have fin:∃ a':Nat,((a':Int)≤h∧h.toNat - a' < h.toNat - k)∧(⟨[(0,.d (.int .i64 h)),(1,.d (.int .i64 w)),(2,.d (.slice 2 (ans l))),(8,.ptr 0 0),(9,.ptr 1 0),(10,.d (.bool false)),(11,.d (.int .i64 (powN (w+1) k * (w+1)))),(19,.d (.int .i64 h)),(20,.d (.int .i64 ((k:Int)+1)))],[.box [.d (.int .i64 (0)),.d (.int .i64 (0)),.d (.int .i64 (0)),.d (.int .i64 (0)),.d (.int .i64 (0))],.box [.d (.int .i64 (0)),.d (.int .i64 (0)),.d (.int .i64 (0)),.d (.int .i64 (0)),.d (.int .i64 (0))],.none,.none,.none]⟩:St)=⟨[(0,.d (.int .i64 h)),(1,.d (.int .i64 w)),(2,.d (.slice 2 (ans l))),(8,.ptr 0 0),(9,.ptr 1 0),(10,.d (.bool false)),(11,.d (.int .i64 (powN (w+1) a'))),(19,.d (.int .i64 h)),(20,.d (.int .i64 (a':Nat)))],[.box [.d (.int .i64 (0)),.d (.int .i64 (0)),.d (.int .i64 (0)),.d (.int .i64 (0)),.d (.int .i64 (0))],.box [.d (.int .i64 (0)),.d (.int .i64 (0)),.d (.int .i64 (0)),.d (.int .i64 (0)),.d (.int .i64 (0))],.none,.none,.none]⟩:=⟨k+1,⟨by omega,by omega⟩,rfl⟩
  refine sd ?_
  refine b_lt (fun t1=>?_) (fun t1=>?_)
  refine ar_add ?_ ?_
  refine an ?_ ?_
  (show (-9223372036854775808:Int)≤w+(1:Int); omega)
  (show w+(1:Int)≤(9223372036854775807:Int); omega)
  refine ar_mul ?_ ?_
  refine an ?_ ?_
  (show (-9223372036854775808:Int)≤powN (w+(1:Int)) k * (w+(1:Int)); omega)
  (show powN (w+(1:Int)) k * (w+(1:Int))≤(9223372036854775807:Int); omega)
  refine ar_add ?_ ?_
  refine an ?_ ?_
  (show (-9223372036854775808:Int)≤(↑k:Int)+(1:Int); omega)
  (show (↑k:Int)+(1:Int)≤(9223372036854775807:Int); omega)
  rotate_left
  (exfalso; omega)
  all_goals exact fin
 have e:k=h.toNat:=by omega
 subst e
 have hp:=powN_rng (m:=w+1) (by omega) (by omega) (i:=h.toNat) (by omega)
 generalize hqq:powN (w+1) h.toNat=q at *
 refine sd ?_
 refine b_lt (fun t1=>?_) (fun t1=>?_)
 (exfalso; omega)
 rotate_left
 refine loop_st (fun n:Nat=>⟨[(0,.d (.int .i64 h)),(1,.d (.int .i64 w)),(2,.d (.slice 2 (ans l))),(8,.ptr 0 0),(9,.ptr 1 0),(10,.d (.bool (fndB (w+1) h.toNat l n))),(27,.d (.int .i64 q)),(28,.d (.int .i64 (n:Nat)))],[.box [.d (.int .i64 (lowAt (w+1) h.toNat l n 0)),.d (.int .i64 (lowAt (w+1) h.toNat l n 1)),.d (.int .i64 (lowAt (w+1) h.toNat l n 2)),.d (.int .i64 (lowAt (w+1) h.toNat l n 3)),.d (.int .i64 (lowAt (w+1) h.toNat l n 4))],.box [.d (.int .i64 (highAt (w+1) h.toNat l n 0)),.d (.int .i64 (highAt (w+1) h.toNat l n 1)),.d (.int .i64 (highAt (w+1) h.toNat l n 2)),.d (.int .i64 (highAt (w+1) h.toNat l n 3)),.d (.int .i64 (highAt (w+1) h.toNat l n 4))],.none,.none,.none]⟩) (fun n=>(n:Int)≤q) (fun n=>q.toNat - n) 0 rfl (by show ((0:Nat):Int)≤q; omega) ?_
 intro n hn
 have hn:(n:Int)≤q:=hn
 dsimp only
 by_cases hnq:(n:Int) < q
 ·have c172_:=c172 (dg (w+1) n h.toNat 0) (dg (w+1) n h.toNat 1) (dg (w+1) n h.toNat 2) (dg (w+1) n h.toNat 3) (dg (w+1) n h.toNat 4) (dg5_rng (by omega) (by omega) (by omega)) l hl hq
  rw [wrong5 (by omega)] at c172_
  have fin:∀ (x0 x1 x2 x3 x4 y0 y1 y2 y3 y4:Int) (F:Bool),x0=lowAt (w+1) h.toNat l (n+1) 0→x1=lowAt (w+1) h.toNat l (n+1) 1→x2=lowAt (w+1) h.toNat l (n+1) 2→x3=lowAt (w+1) h.toNat l (n+1) 3→x4=lowAt (w+1) h.toNat l (n+1) 4→y0=highAt (w+1) h.toNat l (n+1) 0→y1=highAt (w+1) h.toNat l (n+1) 1→y2=highAt (w+1) h.toNat l (n+1) 2→y3=highAt (w+1) h.toNat l (n+1) 3→y4=highAt (w+1) h.toNat l (n+1) 4→F=fndB (w+1) h.toNat l (n+1)→∃ a':Nat,((a':Int)≤q∧q.toNat - a' < q.toNat - n)∧(⟨[(0,.d (.int .i64 h)),(1,.d (.int .i64 w)),(2,.d (.slice 2 (ans l))),(8,.ptr 0 0),(9,.ptr 1 0),(10,.d (.bool F)),(27,.d (.int .i64 q)),(28,.d (.int .i64 ((n:Int)+1)))],[.box [.d (.int .i64 (x0)),.d (.int .i64 (x1)),.d (.int .i64 (x2)),.d (.int .i64 (x3)),.d (.int .i64 (x4))],.box [.d (.int .i64 (y0)),.d (.int .i64 (y1)),.d (.int .i64 (y2)),.d (.int .i64 (y3)),.d (.int .i64 (y4))],.none,.none,.none]⟩:St)=⟨[(0,.d (.int .i64 h)),(1,.d (.int .i64 w)),(2,.d (.slice 2 (ans l))),(8,.ptr 0 0),(9,.ptr 1 0),(10,.d (.bool (fndB (w+1) h.toNat l a'))),(27,.d (.int .i64 q)),(28,.d (.int .i64 (a':Nat)))],[.box [.d (.int .i64 (lowAt (w+1) h.toNat l a' 0)),.d (.int .i64 (lowAt (w+1) h.toNat l a' 1)),.d (.int .i64 (lowAt (w+1) h.toNat l a' 2)),.d (.int .i64 (lowAt (w+1) h.toNat l a' 3)),.d (.int .i64 (lowAt (w+1) h.toNat l a' 4))],.box [.d (.int .i64 (highAt (w+1) h.toNat l a' 0)),.d (.int .i64 (highAt (w+1) h.toNat l a' 1)),.d (.int .i64 (highAt (w+1) h.toNat l a' 2)),.d (.int .i64 (highAt (w+1) h.toNat l a' 3)),.d (.int .i64 (highAt (w+1) h.toNat l a' 4))],.none,.none,.none]⟩:=fun x0 x1 x2 x3 x4 y0 y1 y2 y3 y4 F e0 e1 e2 e3 e4 g0 g1 g2 g3 g4 hF =>
   ⟨n+1,⟨by omega,by omega⟩,by rw [e0,e1,e2,e3,e4,g0,g1,g2,g3,g4,hF]; rfl⟩
  have hN:=fun (e:rightB (digN (w+1) n h.toNat) l=false)=>low_no (m:=w+1) (h:=h.toNat) (l:=l) (n:=n) e
  have hW:=fun (e:rightB (digN (w+1) n h.toNat) l=true) (f:fndB (w+1) h.toNat l n=false)=>low_new (m:=w+1) (h:=h.toNat) (l:=l) (n:=n) e f
  have hO:=fun (e:rightB (digN (w+1) n h.toNat) l=true) (f:fndB (w+1) h.toNat l n=true)=>kn_old (m:=w+1) (h:=h.toNat) (l:=l) (n:=n) e f
  have hva:=fun (Q:AExit→St→Prop)=>v133a (N:=99) (h:=h) (w:=w) (m:=w+1) (n:=(n:Int)) (q:=q) (p:=(n:Int)) (L:=ans l) (f:=fndB (w+1) h.toNat l n) (a0:=lowAt (w+1) h.toNat l n 0) (a1:=lowAt (w+1) h.toNat l n 1) (a2:=lowAt (w+1) h.toNat l n 2) (a3:=lowAt (w+1) h.toNat l n 3) (a4:=lowAt (w+1) h.toNat l n 4) (b0:=highAt (w+1) h.toNat l n 0) (b1:=highAt (w+1) h.toNat l n 1) (b2:=highAt (w+1) h.toNat l n 2) (b3:=highAt (w+1) h.toNat l n 3) (b4:=highAt (w+1) h.toNat l n 4) hh rfl hw ⟨by omega,by omega⟩ (Q:=Q)
  cases hr:rightB (digN (w+1) n h.toNat) l with
  | false =>
   rw [hr] at c172_
   have c172_:CallDet Tryz.prog 172 _ [.bool true]:=c172_
   have hN:=hN hr
   clear hW hO
   refine sd ?_
   refine b_lt (fun t2=>?_) (fun t2=>?_)
   refine hva _ ?_
   refine ca c172_ ?_
   refine ar_add ?_ ?_
   refine an ?_ ?_
   (show (-9223372036854775808:Int)≤(↑n:Int)+(1:Int); omega)
   (show (↑n:Int)+(1:Int)≤(9223372036854775807:Int); omega)
   rotate_left
   (exfalso; omega)
   exact fin _ _ _ _ _ _ _ _ _ _ _ (hN 0).1.symm (hN 1).1.symm (hN 2).1.symm (hN 3).1.symm (hN 4).1.symm (hN 0).2.1.symm (hN 1).2.1.symm (hN 2).2.1.symm (hN 3).2.1.symm (hN 4).2.1.symm (hN 0).2.2.symm
  | true =>
   rw [hr] at c172_
   have c172_:CallDet Tryz.prog 172 _ [.bool false]:=c172_
   cases hf:fndB (w+1) h.toNat l n with
   | false =>
    have hW:=hW hr hf
    rw [hf] at hva
    have e5:∀ x0 x1 x2 x3 x4:Int,(x0==x0&&(x1==x1&&(x2==x2&&(x3==x3&&(x4==x4&&true)))))=true:=fun x0 x1 x2 x3 x4=>by simp
    have e5_:=e5 (dg (w+1) (n:Int) h.toNat 0) (dg (w+1) (n:Int) h.toNat 1) (dg (w+1) (n:Int) h.toNat 2) (dg (w+1) (n:Int) h.toNat 3) (dg (w+1) (n:Int) h.toNat 4)
    clear hN hO
    refine sd ?_
    refine b_lt (fun t2=>?_) (fun t2=>?_)
    refine hva _ ?_
    refine ca c172_ ?_
    refine ca (Exists.intro _ (And.intro rfl rfl)) ?_
    refine b_t e5_ ?_
    refine ca (Exists.intro _ (And.intro rfl rfl)) ?_
    refine b_t e5_ ?_
    refine ar_add ?_ ?_
    refine an ?_ ?_
    (show (-9223372036854775808:Int)≤(↑n:Int)+(1:Int); omega)
    (show (↑n:Int)+(1:Int)≤(9223372036854775807:Int); omega)
    rotate_left
    (exfalso; omega)
    exact fin _ _ _ _ _ _ _ _ _ _ _ (hW 0).1.symm (hW 1).1.symm (hW 2).1.symm (hW 3).1.symm (hW 4).1.symm (hW 0).2.1.symm (hW 1).2.1.symm (hW 2).2.1.symm (hW 3).2.1.symm (hW 4).2.1.symm (hW 0).2.2.symm
   | true =>
    have hO:=hO hr hf
    rw [hf] at hva
    clear hN hW
    refine sd ?_
    refine b_lt (fun t2=>?_) (fun t2=>?_)
    refine hva _ ?_
    refine ca c172_ ?_
    refine ca (Exists.intro _ (And.intro rfl rfl)) ?_
    refine b_intro (fun t3=>?_) (fun t3=>?_)
    replace t3:(dg (w+(1:Int)) (↑n:Int) (Int.toNat h) (0:Nat)==lowAt (w+(1:Int)) (Int.toNat h) l n (0:Nat)&&(dg (w+(1:Int)) (↑n:Int) (Int.toNat h) (1:Nat)==lowAt (w+(1:Int)) (Int.toNat h) l n (1:Nat)&&(dg (w+(1:Int)) (↑n:Int) (Int.toNat h) (2:Nat)==lowAt (w+(1:Int)) (Int.toNat h) l n (2:Nat)&&(dg (w+(1:Int)) (↑n:Int) (Int.toNat h) (3:Nat)==lowAt (w+(1:Int)) (Int.toNat h) l n (3:Nat)&&(dg (w+(1:Int)) (↑n:Int) (Int.toNat h) (4:Nat)==lowAt (w+(1:Int)) (Int.toNat h) l n (4:Nat)&&true)))))=true:=t3
    refine ca (Exists.intro _ (And.intro rfl rfl)) ?_
    refine b_intro (fun t4=>?_) (fun t4=>?_)
    replace t4:(dg (w+(1:Int)) (↑n:Int) (Int.toNat h) (0:Nat)==highAt (w+(1:Int)) (Int.toNat h) l n (0:Nat)&&(dg (w+(1:Int)) (↑n:Int) (Int.toNat h) (1:Nat)==highAt (w+(1:Int)) (Int.toNat h) l n (1:Nat)&&(dg (w+(1:Int)) (↑n:Int) (Int.toNat h) (2:Nat)==highAt (w+(1:Int)) (Int.toNat h) l n (2:Nat)&&(dg (w+(1:Int)) (↑n:Int) (Int.toNat h) (3:Nat)==highAt (w+(1:Int)) (Int.toNat h) l n (3:Nat)&&(dg (w+(1:Int)) (↑n:Int) (Int.toNat h) (4:Nat)==highAt (w+(1:Int)) (Int.toNat h) l n (4:Nat)&&true)))))=true:=t4
    refine ar_add ?_ ?_
    refine an ?_ ?_
    (show (-9223372036854775808:Int)≤(↑n:Int)+(1:Int); omega)
    (show (↑n:Int)+(1:Int)≤(9223372036854775807:Int); omega)
    rotate_left
    replace t4:(dg (w+(1:Int)) (↑n:Int) (Int.toNat h) (0:Nat)==highAt (w+(1:Int)) (Int.toNat h) l n (0:Nat)&&(dg (w+(1:Int)) (↑n:Int) (Int.toNat h) (1:Nat)==highAt (w+(1:Int)) (Int.toNat h) l n (1:Nat)&&(dg (w+(1:Int)) (↑n:Int) (Int.toNat h) (2:Nat)==highAt (w+(1:Int)) (Int.toNat h) l n (2:Nat)&&(dg (w+(1:Int)) (↑n:Int) (Int.toNat h) (3:Nat)==highAt (w+(1:Int)) (Int.toNat h) l n (3:Nat)&&(dg (w+(1:Int)) (↑n:Int) (Int.toNat h) (4:Nat)==highAt (w+(1:Int)) (Int.toNat h) l n (4:Nat)&&true)))))=false:=t4
    refine v133f ?_
    refine ar_add ?_ ?_
    refine an ?_ ?_
    (show (-9223372036854775808:Int)≤(↑n:Int)+(1:Int); omega)
    (show (↑n:Int)+(1:Int)≤(9223372036854775807:Int); omega)
    rotate_left
    replace t3:(dg (w+(1:Int)) (↑n:Int) (Int.toNat h) (0:Nat)==lowAt (w+(1:Int)) (Int.toNat h) l n (0:Nat)&&(dg (w+(1:Int)) (↑n:Int) (Int.toNat h) (1:Nat)==lowAt (w+(1:Int)) (Int.toNat h) l n (1:Nat)&&(dg (w+(1:Int)) (↑n:Int) (Int.toNat h) (2:Nat)==lowAt (w+(1:Int)) (Int.toNat h) l n (2:Nat)&&(dg (w+(1:Int)) (↑n:Int) (Int.toNat h) (3:Nat)==lowAt (w+(1:Int)) (Int.toNat h) l n (3:Nat)&&(dg (w+(1:Int)) (↑n:Int) (Int.toNat h) (4:Nat)==lowAt (w+(1:Int)) (Int.toNat h) l n (4:Nat)&&true)))))=false:=t3
    refine sd ?_
    refine v133f ?_
    refine ar_add ?_ ?_
    refine an ?_ ?_
    (show (-9223372036854775808:Int)≤(↑n:Int)+(1:Int); omega)
    (show (↑n:Int)+(1:Int)≤(9223372036854775807:Int); omega)
    rotate_left
    (exfalso; omega)
    ·obtain ⟨p0,p1,p2,p3,p4⟩:=eq5 t3
     obtain ⟨r0,r1,r2,r3,r4⟩:=eq5 t4
     exact fin _ _ _ _ _ _ _ _ _ _ _ (mn_eq p0 (hO.1 0)) (mn_eq p1 (hO.1 1)) (mn_eq p2 (hO.1 2)) (mn_eq p3 (hO.1 3)) (mn_eq p4 (hO.1 4)) (mx_eq r0 (hO.2.1 0)) (mx_eq r1 (hO.2.1 1)) (mx_eq r2 (hO.2.1 2)) (mx_eq r3 (hO.2.1 3)) (mx_eq r4 (hO.2.1 4)) hO.2.2.symm
    ·exact fin _ _ _ _ _ _ _ _ _ _ _ (hO.1 0).symm (hO.1 1).symm (hO.1 2).symm (hO.1 3).symm (hO.1 4).symm (hO.2.1 0).symm (hO.2.1 1).symm (hO.2.1 2).symm (hO.2.1 3).symm (hO.2.1 4).symm hO.2.2.symm
    ·exact fin _ _ _ _ _ _ _ _ _ _ _ (hO.1 0).symm (hO.1 1).symm (hO.1 2).symm (hO.1 3).symm (hO.1 4).symm (hO.2.1 0).symm (hO.2.1 1).symm (hO.2.1 2).symm (hO.2.1 3).symm (hO.2.1 4).symm hO.2.2.symm
 ·have eN:n=q.toNat:=by omega
  subst eN
  refine sd ?_
  refine b_lt (fun t2=>?_) (fun t2=>?_)
  (exfalso; omega)
  rotate_left
  refine loop_st (fun k:Nat=>⟨[(8,.ptr 0 0),(9,.ptr 1 0),(10,.d (.bool (fndB (w+1) h.toNat l q.toNat))),(17,.sl 4 (ivs (kiv (w+1) h.toNat l q.toNat k)).length),(82,.d (.int .i64 h)),(83,.d (.int .i64 (k:Nat)))],[.box [.d (.int .i64 (lowAt (w+1) h.toNat l q.toNat 0)),.d (.int .i64 (lowAt (w+1) h.toNat l q.toNat 1)),.d (.int .i64 (lowAt (w+1) h.toNat l q.toNat 2)),.d (.int .i64 (lowAt (w+1) h.toNat l q.toNat 3)),.d (.int .i64 (lowAt (w+1) h.toNat l q.toNat 4))],.box [.d (.int .i64 (highAt (w+1) h.toNat l q.toNat 0)),.d (.int .i64 (highAt (w+1) h.toNat l q.toNat 1)),.d (.int .i64 (highAt (w+1) h.toNat l q.toNat 2)),.d (.int .i64 (highAt (w+1) h.toNat l q.toNat 3)),.d (.int .i64 (highAt (w+1) h.toNat l q.toNat 4))],.none,.none,.row 84 2 (ivs (kiv (w+1) h.toNat l q.toNat k)) false]⟩) (fun k=>(k:Int)≤h) (fun k=>h.toNat - k) 0 rfl (by show ((0:Nat):Int)≤h; omega) ?_
  intro k hk
  have hk:(k:Int)≤h:=hk
  have hvl:(ivs (kiv (w+1) h.toNat l q.toNat k)).length=k:=by rw [ivs_len,kiv_len]
  dsimp only
  by_cases hkn:(k:Int) < h
  ·have fin : ∃ a' : Nat, ((a' : Int) ≤ h ∧ h.toNat - a' < h.toNat - k) ∧ (⟨[(8, .ptr 0 0), (9, .ptr 1 0), (10, .d (.bool (fndB (w + 1) h.toNat l q.toNat))), (17, .sl 4 (ivs (kiv (w + 1) h.toNat l q.toNat k) ++ [Data.agg [.int .i64 (lowAt (w + 1) h.toNat l q.toNat k), .int .i64 (highAt (w + 1) h.toNat l q.toNat k)]]).length), (82, .d (.int .i64 h)), (83, .d (.int .i64 ((k : Int) + 1)))], [.box [.d (.int .i64 (lowAt (w + 1) h.toNat l q.toNat 0)), .d (.int .i64 (lowAt (w + 1) h.toNat l q.toNat 1)), .d (.int .i64 (lowAt (w + 1) h.toNat l q.toNat 2)), .d (.int .i64 (lowAt (w + 1) h.toNat l q.toNat 3)), .d (.int .i64 (lowAt (w + 1) h.toNat l q.toNat 4))], .box [.d (.int .i64 (highAt (w + 1) h.toNat l q.toNat 0)), .d (.int .i64 (highAt (w + 1) h.toNat l q.toNat 1)), .d (.int .i64 (highAt (w + 1) h.toNat l q.toNat 2)), .d (.int .i64 (highAt (w + 1) h.toNat l q.toNat 3)), .d (.int .i64 (highAt (w + 1) h.toNat l q.toNat 4))], .none, .none, .row 84 2 (ivs (kiv (w + 1) h.toNat l q.toNat k) ++ [Data.agg [.int .i64 (lowAt (w + 1) h.toNat l q.toNat k), .int .i64 (highAt (w + 1) h.toNat l q.toNat k)]]) false]⟩ : St) = ⟨[(8, .ptr 0 0), (9, .ptr 1 0), (10, .d (.bool (fndB (w + 1) h.toNat l q.toNat))), (17, .sl 4 (ivs (kiv (w + 1) h.toNat l q.toNat a')).length), (82, .d (.int .i64 h)), (83, .d (.int .i64 (a' : Nat)))], [.box [.d (.int .i64 (lowAt (w + 1) h.toNat l q.toNat 0)), .d (.int .i64 (lowAt (w + 1) h.toNat l q.toNat 1)), .d (.int .i64 (lowAt (w + 1) h.toNat l q.toNat 2)), .d (.int .i64 (lowAt (w + 1) h.toNat l q.toNat 3)), .d (.int .i64 (lowAt (w + 1) h.toNat l q.toNat 4))], .box [.d (.int .i64 (highAt (w + 1) h.toNat l q.toNat 0)), .d (.int .i64 (highAt (w + 1) h.toNat l q.toNat 1)), .d (.int .i64 (highAt (w + 1) h.toNat l q.toNat 2)), .d (.int .i64 (highAt (w + 1) h.toNat l q.toNat 3)), .d (.int .i64 (highAt (w + 1) h.toNat l q.toNat 4))], .none, .none, .row 84 2 (ivs (kiv (w + 1) h.toNat l q.toNat a')) false]⟩ :=
    ⟨k+1,⟨by omega,by omega⟩,by rw [kiv_succ]; rfl⟩
   have hk5:k=0∨k=1∨k=2∨k=3∨k=4:=by omega
   rcases hk5 with rfl | rfl | rfl | rfl | rfl
   ·refine sd ?_
    refine b_lt (fun t3=>?_) (fun t3=>?_)
    refine an ?_ ?_
    refine an ?_ ?_
    (show (0:Int)≤(↑(0:Nat):Int); omega)
    (show (↑(0:Nat):Int) < (↑(5:Nat):Int); omega)
    refine an ?_ ?_
    refine an ?_ ?_
    (show (0:Int)≤(↑(0:Nat):Int); omega)
    (show (↑(0:Nat):Int) < (↑(5:Nat):Int); omega)
    refine sd ?_
    refine sd ?_
    refine sd ?_
    refine an ?_ ?_
    refine an ?_ ?_
    exact rfl
    refine an ?_ ?_
    exact rfl
    refine an ?_ ?_
    exact rfl
    refine an ?_ ?_
    (show ((0:Nat)+(1:Nat)) * (16:Nat)≤(2:Nat) ^ (47:Nat); omega)
    (show (0:Nat)+(1:Nat)≤(2:Nat) ^ (47:Nat); omega)
    refine ar_add ?_ ?_
    refine an ?_ ?_
    (show (-9223372036854775808:Int)≤(↑(0:Nat):Int)+(1:Int); omega)
    (show (↑(0:Nat):Int)+(1:Int)≤(9223372036854775807:Int); omega)
    rotate_left
    (exfalso; omega)
    all_goals exact fin
   ·refine sd ?_
    refine b_lt (fun t3=>?_) (fun t3=>?_)
    refine an ?_ ?_
    refine an ?_ ?_
    (show (0:Int)≤(↑(1:Nat):Int); omega)
    (show (↑(1:Nat):Int) < (↑(5:Nat):Int); omega)
    refine an ?_ ?_
    refine an ?_ ?_
    (show (0:Int)≤(↑(1:Nat):Int); omega)
    (show (↑(1:Nat):Int) < (↑(5:Nat):Int); omega)
    refine sd ?_
    refine sd ?_
    refine sd ?_
    refine an ?_ ?_
    refine an ?_ ?_
    exact rfl
    refine an ?_ ?_
    exact rfl
    refine an ?_ ?_
    exact rfl
    refine an ?_ ?_
    (show ((1:Nat)+(1:Nat)) * (16:Nat)≤(2:Nat) ^ (47:Nat); omega)
    (show (1:Nat)+(1:Nat)≤(2:Nat) ^ (47:Nat); omega)
    refine ar_add ?_ ?_
    refine an ?_ ?_
    (show (-9223372036854775808:Int)≤(↑(1:Nat):Int)+(1:Int); omega)
    (show (↑(1:Nat):Int)+(1:Int)≤(9223372036854775807:Int); omega)
    rotate_left
    (exfalso; omega)
    all_goals exact fin
   ·refine sd ?_
    refine b_lt (fun t3=>?_) (fun t3=>?_)
    refine an ?_ ?_
    refine an ?_ ?_
    (show (0:Int)≤(↑(2:Nat):Int); omega)
    (show (↑(2:Nat):Int) < (↑(5:Nat):Int); omega)
    refine an ?_ ?_
    refine an ?_ ?_
    (show (0:Int)≤(↑(2:Nat):Int); omega)
    (show (↑(2:Nat):Int) < (↑(5:Nat):Int); omega)
    refine sd ?_
    refine sd ?_
    refine sd ?_
    refine an ?_ ?_
    refine an ?_ ?_
    exact rfl
    refine an ?_ ?_
    exact rfl
    refine an ?_ ?_
    exact rfl
    refine an ?_ ?_
    (show ((1:Nat)+(1:Nat)+(1:Nat)) * (16:Nat)≤(2:Nat) ^ (47:Nat); omega)
    (show (1:Nat)+(1:Nat)+(1:Nat)≤(2:Nat) ^ (47:Nat); omega)
    refine ar_add ?_ ?_
    refine an ?_ ?_
    (show (-9223372036854775808:Int)≤(↑(2:Nat):Int)+(1:Int); omega)
    (show (↑(2:Nat):Int)+(1:Int)≤(9223372036854775807:Int); omega)
    rotate_left
    (exfalso; omega)
    all_goals exact fin
   ·refine sd ?_
    refine b_lt (fun t3=>?_) (fun t3=>?_)
    refine an ?_ ?_
    refine an ?_ ?_
    (show (0:Int)≤(↑(3:Nat):Int); omega)
    (show (↑(3:Nat):Int) < (↑(5:Nat):Int); omega)
    refine an ?_ ?_
    refine an ?_ ?_
    (show (0:Int)≤(↑(3:Nat):Int); omega)
    (show (↑(3:Nat):Int) < (↑(5:Nat):Int); omega)
    refine sd ?_
    refine sd ?_
    refine sd ?_
    refine an ?_ ?_
    refine an ?_ ?_
    exact rfl
    refine an ?_ ?_
    exact rfl
    refine an ?_ ?_
    exact rfl
    refine an ?_ ?_
    (show ((1:Nat)+(1:Nat)+(1:Nat)+(1:Nat)) * (16:Nat)≤(2:Nat) ^ (47:Nat); omega)
    (show (1:Nat)+(1:Nat)+(1:Nat)+(1:Nat)≤(2:Nat) ^ (47:Nat); omega)
    refine ar_add ?_ ?_
    refine an ?_ ?_
    (show (-9223372036854775808:Int)≤(↑(3:Nat):Int)+(1:Int); omega)
    (show (↑(3:Nat):Int)+(1:Int)≤(9223372036854775807:Int); omega)
    rotate_left
    (exfalso; omega)
    all_goals exact fin
   ·refine sd ?_
    refine b_lt (fun t3=>?_) (fun t3=>?_)
    refine an ?_ ?_
    refine an ?_ ?_
    (show (0:Int)≤(↑(4:Nat):Int); omega)
    (show (↑(4:Nat):Int) < (↑(5:Nat):Int); omega)
    refine an ?_ ?_
    refine an ?_ ?_
    (show (0:Int)≤(↑(4:Nat):Int); omega)
    (show (↑(4:Nat):Int) < (↑(5:Nat):Int); omega)
    refine sd ?_
    refine sd ?_
    refine sd ?_
    refine an ?_ ?_
    refine an ?_ ?_
    exact rfl
    refine an ?_ ?_
    exact rfl
    refine an ?_ ?_
    exact rfl
    refine an ?_ ?_
    (show ((1:Nat)+(1:Nat)+(1:Nat)+(1:Nat)+(1:Nat)) * (16:Nat)≤(2:Nat) ^ (47:Nat); omega)
    (show (1:Nat)+(1:Nat)+(1:Nat)+(1:Nat)+(1:Nat)≤(2:Nat) ^ (47:Nat); omega)
    refine ar_add ?_ ?_
    refine an ?_ ?_
    (show (-9223372036854775808:Int)≤(↑(4:Nat):Int)+(1:Int); omega)
    (show (↑(4:Nat):Int)+(1:Int)≤(9223372036854775807:Int); omega)
    rotate_left
    (exfalso; omega)
    all_goals exact fin
  ·have e:k=h.toNat:=by omega
   subst e
   refine sd ?_
   refine b_lt (fun t3=>?_) (fun t3=>?_)
   (exfalso; omega)
   refine sd ?_
   exact rfl
   all_goals rfl
end Vc
