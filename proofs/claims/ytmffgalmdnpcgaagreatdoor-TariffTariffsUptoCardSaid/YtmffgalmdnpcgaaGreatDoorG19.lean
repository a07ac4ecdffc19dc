import Derived.Test.YtmffgalmdnpcgaaGreatDoorG18
set_option linter.unusedSectionVars false
set_option linter.unusedVariables false
set_option linter.unusedSimpArgs false
set_option maxRecDepth 10000
set_option maxHeartbeats 4000000
namespace Vc
open Go Go.Proofs
def cN (sz id:Nat):Nat→AVal
 | 0=>.nils sz
 | k+1=>.sl id (k+1)
def oN (t:TypeId) (sz:Nat) (R:Nat→List Data):Nat→AObj
 | 0=>.none
 | k+1=>.row t sz (R (k+1)) false
theorem cN_pos {sz id k:Nat} (h:0 < k):cN sz id k=.sl id k:=by
 cases k with
 | zero=>omega
 | succ k=>rfl
theorem oN_pos {t:TypeId} {sz k:Nat} {R:Nat→List Data} (h:0 < k):oN t sz R k=.row t sz (R k) false:=by
 cases k with
 | zero=>omega
 | succ k=>rfl
theorem sws_step {l:List (Int × Int)} {k:Nat} {x:Int × Int} (h:l[k]?=some x):sws (l.take (k+1))=sws (l.take k)++[Data.agg [.int .i64 x.1,.int .i64 x.2]]:=take_map_succ swD h
theorem tys_step {l:List (List (Int × Int))} {k:Nat} {x:List (Int × Int)} (h:l[k]?=some x):tys (l.take (k+1))=tys (l.take k)++[Data.slice 2 (sws x)]:=take_map_succ _ h
theorem seas_step {l:List Sea} {k:Nat} {s:Sea} (h:l[k]?=some s):seas (l.take (k+1))=seas (l.take k)++[Data.agg [.int .i64 s.f,.int .i64 s.a,.int .i64 s.b,.int .i64 s.c,.int .i64 s.d,.int .i64 s.e,.int .i64 s.g,.int .i64 s.h]]:=take_map_succ seaD h
def jr65:AFun:=⟨6,2,[.tmp 2],
 (.seq
 (.reg [] [⟨some 2,.mov (.cst (.nils 1)),none⟩])
 (.seq
  (.reg [0,1] [⟨some 3,.bsl 0 3 1 0 [] [],none⟩,
   ⟨some 4,.mov (.tmp 0),none⟩,
   ⟨some 5,.app 1 3 1 8 (.tmp 3) (.tmp 4),none⟩,
   ⟨some 2,.mov (.tmp 5),none⟩])
  .ret))⟩
@[irreducible] def seg29i:ACode:=(.post [1,2,3,6,18,19,20] [0,1,2,3,4,5]
 (.block 2
 (.asrow 5 194 2 6
 (.keep [1,2,3,6,18,19,20,24,25,26] [0,1,2]
 (.loop
 (.post [1,2,3,6,18,19,20,24,25,26] [3,4,5]
 (.seq
 (.reg [] [⟨some 27,.cmp .lss (.tmp 26) (.tmp 25),none⟩])
 (.seq
 (.cond (.tmp 27)
 .skip
 (.exit 2))
 (.seq
 (.block 3
 (.seq
 (.reg [3] [⟨some 28,.ixa 2 (.tmp 24) (.tmp 26),none⟩,
 ⟨some 29,.ld true 2 (.tmp 28),none⟩,
 ⟨some 8,.alloc 3 [(.d (.int .i64 0)),(.d (.int .i64 0))],none⟩,
 ⟨none,.st 2 (.tmp 8) (.tmp 29),none⟩])
 (.reg [4,5] [⟨some 30,.mov (.tmp 6),none⟩,
 ⟨some 31,.ld true 2 (.tmp 8),none⟩,
 ⟨some 32,.bsl 4 194 2 1 [(.agg [(.int .i64 0),(.int .i64 0)])] [(0,(.tmp 31))],none⟩,
 ⟨some 33,.app 5 194 2 16 (.tmp 30) (.tmp 32),none⟩,
 ⟨some 6,.mov (.tmp 33),none⟩])))
 (.reg [] [⟨some 34,.arith .add .i64 (.tmp 26) (.cst (.d (.int .i64 1))),none⟩,
 ⟨some 26,.mov (.tmp 34),none⟩]))))))))))
@[irreducible] def seg29a:ACode:=(.post [1,2,3] [0,1,2,3,4,5,6,7]
 (.block 0
 (.keep [1,2,3,18,19,20] [0,1,2]
 (.loop
 (.post [1,2,3,18,19,20] [3,4,5,6,7]
 (.seq
 (.reg [] [⟨some 21,.cmp .lss (.tmp 20) (.tmp 19),none⟩])
 (.seq
 (.cond (.tmp 21)
 .skip
 (.exit 0))
 (.seq
 (.block 1
 (.seq
 (.reg [] [⟨some 22,.ixa 1 (.tmp 18) (.tmp 20),none⟩,
 ⟨some 23,.ld false 1 (.tmp 22),none⟩,
 ⟨some 5,.mov (.tmp 23),none⟩])
 (.seq
 (.reg [] [⟨some 6,.mov (.cst (.nils 2)),none⟩])
 (.seq
 (.seq
 (.reg [] [⟨some 24,.mov (.tmp 5),none⟩,
 ⟨some 25,.len (.tmp 24),none⟩,
 ⟨some 26,.mov (.cst (.d (.int .i64 0))),none⟩])
 (.keep [1,2,3,6,18,19,20,24,25,26] [] seg29i))
 (.asdat 6
(.reg [6, 7] [⟨some 35, .fad 1 (.tmp 3), none⟩,
          ⟨some 36,.ld false 1 (.tmp 35),none⟩,
          ⟨some 37,.mov (.tmp 6),none⟩,
          ⟨some 38,.bsl 6 187 1 1 [(.slice 2 [])] [(0,(.tmp 37))],none⟩,
          ⟨some 39,.app 7 187 1 24 (.tmp 36) (.tmp 38),none⟩,
          ⟨some 40,.fad 1 (.tmp 3),none⟩,
          ⟨none,.st 1 (.tmp 40) (.tmp 39),none⟩]))))))
       (.reg [] [⟨some 41,.arith .add .i64 (.tmp 20) (.cst (.d (.int .i64 1))),none⟩,
        ⟨some 20,.mov (.tmp 41),none⟩])))))))))
@[irreducible] def seg29b:ACode:=(.post [1,2,3] [0,1,2,3,4,5,6,7,8,9,10]
 (.block 4
 (.keep [1,2,3,43,44,45] [0,1,2,3,4,5,6,7]
 (.loop
 (.post [1,2,3,43,44,45] [8,9,10]
 (.seq
 (.reg [] [⟨some 46,.cmp .lss (.tmp 45) (.tmp 44),none⟩])
 (.seq
 (.cond (.tmp 46)
 .skip
 (.exit 4))
 (.seq
 (.block 5
 (.seq
 (.reg [8] [⟨some 47,.ixa 8 (.tmp 43) (.tmp 45),none⟩,
 ⟨some 48,.ld true 8 (.tmp 47),none⟩,
 ⟨some 10,.alloc 8 [(.d (.int .i64 0)),(.d (.int .i64 0)),(.d (.int .i64 0)),(.d (.int .i64 0)),(.d (.int .i64 0)),(.d (.int .i64 0)),(.d (.int .i64 0)),(.d (.int .i64 0))],none⟩,
 ⟨none,.st 8 (.tmp 10) (.tmp 48),none⟩])
 (.reg [9,10] [⟨some 49,.fad 2 (.tmp 3),none⟩,
 ⟨some 50,.ld false 1 (.tmp 49),none⟩,
 ⟨some 51,.ld true 8 (.tmp 10),none⟩,
 ⟨some 52,.bsl 9 198 8 1 [(.agg [(.int .i64 0),(.int .i64 0),(.int .i64 0),(.int .i64 0),(.int .i64 0),(.int .i64 0),(.int .i64 0),(.int .i64 0)])] [(0,(.tmp 51))],none⟩,
 ⟨some 53,.app 10 198 8 64 (.tmp 50) (.tmp 52),none⟩,
 ⟨some 54,.fad 2 (.tmp 3),none⟩,
 ⟨none,.st 1 (.tmp 54) (.tmp 53),none⟩])))
 (.reg [] [⟨some 55,.arith .add .i64 (.tmp 45) (.cst (.d (.int .i64 1))),none⟩,
 ⟨some 45,.mov (.tmp 55),none⟩])))))))))
@[irreducible] def seg29c:ACode:=(.post [2,3] [0,1,2,3,4,5,6,7,8,9,10,11,12,13]
 (.block 6
 (.keep [2,3,57,58,59] [0,1,2,3,4,5,6,7,8,9,10]
 (.loop
 (.post [2,3,57,58,59] [11,12,13]
 (.seq
 (.reg [] [⟨some 60,.cmp .lss (.tmp 59) (.tmp 58),none⟩])
 (.seq
 (.cond (.tmp 60)
 .skip
 (.exit 6))
 (.seq
 (.block 7
 (.seq
 (.reg [11] [⟨some 61,.ixa 2 (.tmp 57) (.tmp 59),none⟩,
 ⟨some 62,.ld true 2 (.tmp 61),none⟩,
 ⟨some 12,.alloc 11 [(.d (.int .i64 0)),(.d (.int .i64 0))],none⟩,
 ⟨none,.st 2 (.tmp 12) (.tmp 62),none⟩])
 (.reg [12,13] [⟨some 63,.fad 3 (.tmp 3),none⟩,
 ⟨some 64,.ld false 1 (.tmp 63),none⟩,
 ⟨some 65,.ld true 2 (.tmp 12),none⟩,
 ⟨some 66,.bsl 12 199 2 1 [(.agg [(.int .i64 0),(.int .i64 0)])] [(0,(.tmp 65))],none⟩,
 ⟨some 67,.app 13 199 2 16 (.tmp 64) (.tmp 66),none⟩,
 ⟨some 68,.fad 3 (.tmp 3),none⟩,
 ⟨none,.st 1 (.tmp 68) (.tmp 67),none⟩])))
 (.reg [] [⟨some 69,.arith .add .i64 (.tmp 59) (.cst (.d (.int .i64 1))),none⟩,
 ⟨some 59,.mov (.tmp 69),none⟩])))))))))
def jr29:AFun:=⟨71,14,[.cell 2 4 true],
 (.seq
 (.reg [0,1] [⟨some 1,.cbx 0 4 (.tmp 0),none⟩,
  ⟨some 2,.alloc 1 [(.nils 1),(.nils 1),(.nils 8),(.nils 2)],none⟩])
 (.seq
  (.reg [2] [⟨some 13,.fad 0 (.tmp 1),none⟩,
   ⟨some 14,.ld false 1 (.tmp 13),none⟩,
   ⟨some 15,.call 65 [(.tmp 14)],none⟩,
   ⟨some 16,.build [(.nils 1),(.nils 1),(.nils 8),(.nils 2)] [(0,1,(.tmp 15))],none⟩,
   ⟨some 3,.alloc 2 [(.nils 1),(.nils 1),(.nils 8),(.nils 2)],none⟩,
   ⟨none,.st 4 (.tmp 3) (.tmp 16),none⟩])
  (.seq
  (.seq
   (.reg [] [⟨some 17,.fad 1 (.tmp 1),none⟩,
    ⟨some 18,.ld false 1 (.tmp 17),none⟩,
    ⟨some 19,.len (.tmp 18),none⟩,
    ⟨some 20,.mov (.cst (.d (.int .i64 0))),none⟩])
   (.keep [1,2,3,18,19,20] [] seg29a))
  (.seq
   (.seq
   (.reg [] [⟨some 42,.fad 2 (.tmp 1),none⟩,
    ⟨some 43,.ld false 1 (.tmp 42),none⟩,
    ⟨some 44,.len (.tmp 43),none⟩,
    ⟨some 45,.mov (.cst (.d (.int .i64 0))),none⟩])
   (.keep [1,2,3,43,44,45] [] seg29b))
   (.seq
   (.seq
    (.reg [] [⟨some 56,.fad 3 (.tmp 1),none⟩,
     ⟨some 57,.ld false 1 (.tmp 56),none⟩,
     ⟨some 58,.len (.tmp 57),none⟩,
     ⟨some 59,.mov (.cst (.d (.int .i64 0))),none⟩])
    (.keep [2,3,57,58,59] [0] seg29c))
   (.seq
    (.reg [] [⟨some 70,.ld true 4 (.tmp 3),none⟩,
     ⟨none,.st 4 (.tmp 2) (.tmp 70),none⟩])
    .ret))))))⟩
theorem c65 (l:List Int) (hl:l.length≤1048576):CallDet Tryz.prog 65 [.d (.slice 1 (ints l))] [.slice 1 (ints l)]:=by
 have hlen:(ints l).length=l.length:=by simp [ints]
 refine call_of_vc (x:=jr65) (by kernel_rfl) rfl ?_
 refine sd ?_
 refine sd ?_
 refine an ?_ ?_
 refine an ?_ ?_
 exact rfl
 refine an ?_ ?_
 exact rfl
 refine an ?_ ?_
 exact rfl
 refine an ?_ ?_
 (show ((0:Nat)+List.length (ints l)) * (8:Nat)≤(2:Nat) ^ (47:Nat); omega)
 (show (0:Nat)+List.length (ints l)≤(2:Nat) ^ (47:Nat); omega)
 refine sd ?_
 exact rfl
theorem v29i0 {N n:Nat} {R:List Data} {t:Tf} {x:List (Int × Int)} {j:Int} (hx:x.length≤1048576) {Q:AExit→St→Prop} (hQ:Q .normal ⟨[(1,.ptr 0 0),(2,.ptr 1 0),(3,.ptr 2 0),(6,.sl 5 (sws x).length),(18,.d (.slice 1 (tys t.t))),(19,.d (.int .i64 (((tys t.t).length:Nat):Int))),(20,.d (.int .i64 j))],[.cbox [.slice 1 (ints t.p),.slice 1 (tys t.t),.slice 8 (seas t.s),.slice 2 (sws t.b)],.box [.nils 1,.nils 1,.nils 8,.nils 2],.box [.d (.slice 1 (ints t.p)),.nils 1,.nils 8,.nils 2],.none,.none,.row 194 2 (sws x) false,.none,.none,.none,.none,.none,.none,.none,.none]⟩):vc Tryz.prog N seg29i ⟨[(1,.ptr 0 0),(2,.ptr 1 0),(3,.ptr 2 0),(6,.nils 2),(18,.d (.slice 1 (tys t.t))),(19,.d (.int .i64 (((tys t.t).length:Nat):Int))),(20,.d (.int .i64 j)),(24,.d (.slice 2 (sws x))),(25,.d (.int .i64 (((sws x).length:Nat):Int))),(26,.d (.int .i64 (0)))],[.cbox [.slice 1 (ints t.p),.slice 1 (tys t.t),.slice 8 (seas t.s),.slice 2 (sws t.b)],.box [.nils 1,.nils 1,.nils 8,.nils 2],.box [.d (.slice 1 (ints t.p)),.nils 1,.nils 8,.nils 2],.none,.none,.none,.none,.none,.none,.none,.none,.none,.none,.none]⟩ Q:=by
 unfold seg29i
 have hlen:=sws_len x
 refine loop_st (fun k:Nat=>⟨[(1,.ptr 0 0),(2,.ptr 1 0),(3,.ptr 2 0),(6,.sl 5 (sws (x.take k)).length),(18,.d (.slice 1 (tys t.t))),(19,.d (.int .i64 (((tys t.t).length:Nat):Int))),(20,.d (.int .i64 j)),(24,.d (.slice 2 (sws x))),(25,.d (.int .i64 (((sws x).length:Nat):Int))),(26,.d (.int .i64 ((k:Nat))))],[.cbox [.slice 1 (ints t.p),.slice 1 (tys t.t),.slice 8 (seas t.s),.slice 2 (sws t.b)],.box [.nils 1,.nils 1,.nils 8,.nils 2],.box [.d (.slice 1 (ints t.p)),.nils 1,.nils 8,.nils 2],.none,.none,.row 194 2 (sws (x.take k)) false,.none,.none,.none,.none,.none,.none,.none,.none]⟩) (fun k=>k≤x.length) (fun k=>x.length - k) 0 rfl (Nat.zero_le _) ?_
 intro k hk
 have hk:k≤x.length:=hk
 have hlr:(sws (x.take k)).length=k:=by rw [sws_len,List.length_take]; omega
 dsimp only
 by_cases hkn:k < x.length
 ·refine Exists.elim (get_lt x hkn) fun y hy=>?_
  have hy1:=sws_at hy
  have fin:∃ a':Nat,(a'≤x.length∧x.length - a' < x.length - k)∧(⟨[(1,.ptr 0 0),(2,.ptr 1 0),(3,.ptr 2 0),(6,.sl 5 (sws (x.take k)++[Data.agg [.int .i64 y.1,.int .i64 y.2]]).length),(18,.d (.slice 1 (tys t.t))),(19,.d (.int .i64 (((tys t.t).length:Nat):Int))),(20,.d (.int .i64 j)),(24,.d (.slice 2 (sws x))),(25,.d (.int .i64 (((sws x).length:Nat):Int))),(26,.d (.int .i64 (((k:Int)+1))))],[.cbox [.slice 1 (ints t.p),.slice 1 (tys t.t),.slice 8 (seas t.s),.slice 2 (sws t.b)],.box [.nils 1,.nils 1,.nils 8,.nils 2],.box [.d (.slice 1 (ints t.p)),.nils 1,.nils 8,.nils 2],.none,.none,.row 194 2 (sws (x.take k)++[Data.agg [.int .i64 y.1,.int .i64 y.2]]) false,.none,.none,.none,.none,.none,.none,.none,.none]⟩:St)=⟨[(1,.ptr 0 0),(2,.ptr 1 0),(3,.ptr 2 0),(6,(.sl 5 (sws (x.take a')).length)),(18,.d (.slice 1 (tys t.t))),(19,.d (.int .i64 (((tys t.t).length:Nat):Int))),(20,.d (.int .i64 j)),(24,.d (.slice 2 (sws x))),(25,.d (.int .i64 (((sws x).length:Nat):Int))),(26,.d (.int .i64 ((a':Nat))))],[.cbox [.slice 1 (ints t.p),.slice 1 (tys t.t),.slice 8 (seas t.s),.slice 2 (sws t.b)],.box [.nils 1,.nils 1,.nils 8,.nils 2],.box [.d (.slice 1 (ints t.p)),.nils 1,.nils 8,.nils 2],.none,.none,(.row 194 2 (sws (x.take a')) false),.none,.none,.none,.none,.none,.none,.none,.none]⟩ :=
   ⟨k+1,⟨by omega,by omega⟩,by rw [sws_step hy]; rfl⟩
  refine sd ?_
  refine b_lt (fun t1=>?_) (fun t1=>?_)
  refine ix_at hy1 ?_ ?_
  (show (0:Int)≤(↑k:Int); omega)
  refine sd ?_
  refine sd ?_
  refine sd ?_
  refine an ?_ ?_
  refine an ?_ ?_
  exact rfl
  refine an ?_ ?_
  exact rfl
  refine an ?_ ?_
  exact rfl
  refine an ?_ ?_
  (show (List.length (sws (List.take k x))+(1:Nat)) * (16:Nat)≤(2:Nat) ^ (47:Nat); omega)
  (show List.length (sws (List.take k x))+(1:Nat)≤(2:Nat) ^ (47:Nat); omega)
  refine ar_add ?_ ?_
  refine an ?_ ?_
  (show (-9223372036854775808:Int)≤(↑k:Int)+(1:Int); omega)
  (show (↑k:Int)+(1:Int)≤(9223372036854775807:Int); omega)
  rotate_left
  (exfalso; omega)
  all_goals exact fin
 ·have e:k=x.length:=by omega
  subst e
  rw [List.take_length]
  refine sd ?_
  refine b_lt (fun t1=>?_) (fun t1=>?_)
  (exfalso; omega)
  rotate_left
  exact hQ
theorem v29i1 {N n:Nat} {R:List Data} {t:Tf} {x:List (Int × Int)} {j:Int} (hx:x.length≤1048576) {Q:AExit→St→Prop} (hQ:Q .normal ⟨[(1,.ptr 0 0),(2,.ptr 1 0),(3,.ptr 2 0),(6,.sl 5 (sws x).length),(18,.d (.slice 1 (tys t.t))),(19,.d (.int .i64 (((tys t.t).length:Nat):Int))),(20,.d (.int .i64 j))],[.cbox [.slice 1 (ints t.p),.slice 1 (tys t.t),.slice 8 (seas t.s),.slice 2 (sws t.b)],.box [.nils 1,.nils 1,.nils 8,.nils 2],.box [.d (.slice 1 (ints t.p)),.sl 7 n,.nils 8,.nils 2],.none,.none,.row 194 2 (sws x) false,.none,.row 187 1 R false,.none,.none,.none,.none,.none,.none]⟩):vc Tryz.prog N seg29i ⟨[(1,.ptr 0 0),(2,.ptr 1 0),(3,.ptr 2 0),(6,.nils 2),(18,.d (.slice 1 (tys t.t))),(19,.d (.int .i64 (((tys t.t).length:Nat):Int))),(20,.d (.int .i64 j)),(24,.d (.slice 2 (sws x))),(25,.d (.int .i64 (((sws x).length:Nat):Int))),(26,.d (.int .i64 (0)))],[.cbox [.slice 1 (ints t.p),.slice 1 (tys t.t),.slice 8 (seas t.s),.slice 2 (sws t.b)],.box [.nils 1,.nils 1,.nils 8,.nils 2],.box [.d (.slice 1 (ints t.p)),.sl 7 n,.nils 8,.nils 2],.none,.none,.none,.none,.row 187 1 R false,.none,.none,.none,.none,.none,.none]⟩ Q:=by
 unfold seg29i
 have hlen:=sws_len x
 refine loop_st (fun k:Nat=>⟨[(1,.ptr 0 0),(2,.ptr 1 0),(3,.ptr 2 0),(6,.sl 5 (sws (x.take k)).length),(18,.d (.slice 1 (tys t.t))),(19,.d (.int .i64 (((tys t.t).length:Nat):Int))),(20,.d (.int .i64 j)),(24,.d (.slice 2 (sws x))),(25,.d (.int .i64 (((sws x).length:Nat):Int))),(26,.d (.int .i64 ((k:Nat))))],[.cbox [.slice 1 (ints t.p),.slice 1 (tys t.t),.slice 8 (seas t.s),.slice 2 (sws t.b)],.box [.nils 1,.nils 1,.nils 8,.nils 2],.box [.d (.slice 1 (ints t.p)),.sl 7 n,.nils 8,.nils 2],.none,.none,.row 194 2 (sws (x.take k)) false,.none,.row 187 1 R false,.none,.none,.none,.none,.none,.none]⟩) (fun k=>k≤x.length) (fun k=>x.length - k) 0 rfl (Nat.zero_le _) ?_
 intro k hk
 have hk:k≤x.length:=hk
 have hlr:(sws (x.take k)).length=k:=by rw [sws_len,List.length_take]; omega
 dsimp only
 by_cases hkn:k < x.length
 ·refine Exists.elim (get_lt x hkn) fun y hy=>?_
  have hy1:=sws_at hy
  have fin:∃ a':Nat,(a'≤x.length∧x.length - a' < x.length - k)∧(⟨[(1,.ptr 0 0),(2,.ptr 1 0),(3,.ptr 2 0),(6,.sl 5 (sws (x.take k)++[Data.agg [.int .i64 y.1,.int .i64 y.2]]).length),(18,.d (.slice 1 (tys t.t))),(19,.d (.int .i64 (((tys t.t).length:Nat):Int))),(20,.d (.int .i64 j)),(24,.d (.slice 2 (sws x))),(25,.d (.int .i64 (((sws x).length:Nat):Int))),(26,.d (.int .i64 (((k:Int)+1))))],[.cbox [.slice 1 (ints t.p),.slice 1 (tys t.t),.slice 8 (seas t.s),.slice 2 (sws t.b)],.box [.nils 1,.nils 1,.nils 8,.nils 2],.box [.d (.slice 1 (ints t.p)),.sl 7 n,.nils 8,.nils 2],.none,.none,.row 194 2 (sws (x.take k)++[Data.agg [.int .i64 y.1,.int .i64 y.2]]) false,.none,.row 187 1 R false,.none,.none,.none,.none,.none,.none]⟩:St)=⟨[(1,.ptr 0 0),(2,.ptr 1 0),(3,.ptr 2 0),(6,(.sl 5 (sws (x.take a')).length)),(18,.d (.slice 1 (tys t.t))),(19,.d (.int .i64 (((tys t.t).length:Nat):Int))),(20,.d (.int .i64 j)),(24,.d (.slice 2 (sws x))),(25,.d (.int .i64 (((sws x).length:Nat):Int))),(26,.d (.int .i64 ((a':Nat))))],[.cbox [.slice 1 (ints t.p),.slice 1 (tys t.t),.slice 8 (seas t.s),.slice 2 (sws t.b)],.box [.nils 1,.nils 1,.nils 8,.nils 2],.box [.d (.slice 1 (ints t.p)),.sl 7 n,.nils 8,.nils 2],.none,.none,(.row 194 2 (sws (x.take a')) false),.none,.row 187 1 R false,.none,.none,.none,.none,.none,.none]⟩ :=
   ⟨k+1,⟨by omega,by omega⟩,by rw [sws_step hy]; rfl⟩
  refine sd ?_
  refine b_lt (fun t1=>?_) (fun t1=>?_)
  refine ix_at hy1 ?_ ?_
  (show (0:Int)≤(↑k:Int); omega)
  refine sd ?_
  refine sd ?_
  refine sd ?_
  refine an ?_ ?_
  refine an ?_ ?_
  exact rfl
  refine an ?_ ?_
  exact rfl
  refine an ?_ ?_
  exact rfl
  refine an ?_ ?_
  (show (List.length (sws (List.take k x))+(1:Nat)) * (16:Nat)≤(2:Nat) ^ (47:Nat); omega)
  (show List.length (sws (List.take k x))+(1:Nat)≤(2:Nat) ^ (47:Nat); omega)
  refine ar_add ?_ ?_
  refine an ?_ ?_
  (show (-9223372036854775808:Int)≤(↑k:Int)+(1:Int); omega)
  (show (↑k:Int)+(1:Int)≤(9223372036854775807:Int); omega)
  rotate_left
  (exfalso; omega)
  all_goals exact fin
 ·have e:k=x.length:=by omega
  subst e
  rw [List.take_length]
  refine sd ?_
  refine b_lt (fun t1=>?_) (fun t1=>?_)
  (exfalso; omega)
  rotate_left
  exact hQ
theorem v29a {N:Nat} {t:Tf} (hr:∀ x∈t.t,x.length≤1048576) (hl:t.t.length≤1048576) {Q:AExit→St→Prop} (hQ:Q .normal ⟨[(1,.ptr 0 0),(2,.ptr 1 0),(3,.ptr 2 0)],[.cbox [.slice 1 (ints t.p),.slice 1 (tys t.t),.slice 8 (seas t.s),.slice 2 (sws t.b)],.box [.nils 1,.nils 1,.nils 8,.nils 2],.box [.d (.slice 1 (ints t.p)),(cN 1 7 t.t.length),.nils 8,.nils 2],.none,.none,.none,.none,(oN 187 1 (fun k=>tys (t.t.take k)) t.t.length),.none,.none,.none,.none,.none,.none]⟩):vc Tryz.prog N seg29a ⟨[(1,.ptr 0 0),(2,.ptr 1 0),(3,.ptr 2 0),(18,.d (.slice 1 (tys t.t))),(19,.d (.int .i64 (((tys t.t).length:Nat):Int))),(20,.d (.int .i64 (0)))],[.cbox [.slice 1 (ints t.p),.slice 1 (tys t.t),.slice 8 (seas t.s),.slice 2 (sws t.b)],.box [.nils 1,.nils 1,.nils 8,.nils 2],.box [.d (.slice 1 (ints t.p)),.nils 1,.nils 8,.nils 2],.none,.none,.none,.none,.none,.none,.none,.none,.none,.none,.none]⟩ Q:=by
 unfold seg29a
 have hlo:=tys_len t.t
 refine loop_st (fun k:Nat=>⟨[(1,.ptr 0 0),(2,.ptr 1 0),(3,.ptr 2 0),(18,.d (.slice 1 (tys t.t))),(19,.d (.int .i64 (((tys t.t).length:Nat):Int))),(20,.d (.int .i64 ((k:Nat))))],[.cbox [.slice 1 (ints t.p),.slice 1 (tys t.t),.slice 8 (seas t.s),.slice 2 (sws t.b)],.box [.nils 1,.nils 1,.nils 8,.nils 2],.box [.d (.slice 1 (ints t.p)),(cN 1 7 k),.nils 8,.nils 2],.none,.none,.none,.none,(oN 187 1 (fun k=>tys (t.t.take k)) k),.none,.none,.none,.none,.none,.none]⟩) (fun k=>k≤(t.t).length) (fun k=>(t.t).length - k) 0 rfl (Nat.zero_le _) ?_
 intro k hk
 have hk:k≤(t.t).length:=hk
 have hlr:(tys ((t.t).take k)).length=k:=by rw [tys_len,List.length_take]; omega
 dsimp only
 by_cases hkn:k < (t.t).length
 ·refine Exists.elim (get_lt (t.t) hkn) fun x hx=>?_
  have hx1:=tys_at hx
  have hst:=tys_step hx
  have fin:∀ (W:List Data) (q:Nat),W=tys ((t.t).take (k+1))→q=k+1→∃ a':Nat,(a'≤(t.t).length∧(t.t).length - a' < (t.t).length - k)∧(⟨[(1,.ptr 0 0),(2,.ptr 1 0),(3,.ptr 2 0),(18,.d (.slice 1 (tys t.t))),(19,.d (.int .i64 (((tys t.t).length:Nat):Int))),(20,.d (.int .i64 (((k:Int)+1))))],[.cbox [.slice 1 (ints t.p),.slice 1 (tys t.t),.slice 8 (seas t.s),.slice 2 (sws t.b)],.box [.nils 1,.nils 1,.nils 8,.nils 2],.box [.d (.slice 1 (ints t.p)),.sl 7 q,.nils 8,.nils 2],.none,.none,.none,.none,.row 187 1 W false,.none,.none,.none,.none,.none,.none]⟩:St)=⟨[(1,.ptr 0 0),(2,.ptr 1 0),(3,.ptr 2 0),(18,.d (.slice 1 (tys t.t))),(19,.d (.int .i64 (((tys t.t).length:Nat):Int))),(20,.d (.int .i64 ((a':Nat))))],[.cbox [.slice 1 (ints t.p),.slice 1 (tys t.t),.slice 8 (seas t.s),.slice 2 (sws t.b)],.box [.nils 1,.nils 1,.nils 8,.nils 2],.box [.d (.slice 1 (ints t.p)),(cN 1 7 a'),.nils 8,.nils 2],.none,.none,.none,.none,(oN 187 1 (fun k=>tys (t.t.take k)) a'),.none,.none,.none,.none,.none,.none]⟩:=fun W q e1 e2 =>
   ⟨k+1,⟨by omega,by omega⟩,by rw [e1,e2]; rfl⟩
  rcases Nat.eq_zero_or_pos k with hz | hz
  ·subst hz
   have fin:=fin ([Data.slice 2 (sws x)]) 1 hst.symm rfl
   have hvi:=fun (Q:AExit→St→Prop)=>v29i0 (N:=N) (n:=0) (R:=[]) (t:=t) (x:=x) (j:=0) (hr x (List.mem_of_getElem? hx)) (Q:=Q)
   refine sd ?_
   refine b_lt (fun t1=>?_) (fun t1=>?_)
   refine ix_at hx1 ?_ ?_
   (show (0:Int)≤(↑(0:Nat):Int); omega)
   refine hvi _ ?_
   rotate_left
   (exfalso; omega)
   conv=>whnf
   rw [Nat.beq_refl]
   refine sd ?_
   refine sd ?_
   refine sd ?_
   refine an ?_ ?_
   refine an ?_ ?_
   (show (1:Nat) * (24:Nat)≤(2:Nat) ^ (47:Nat); omega)
   (show (1:Nat)≤(2:Nat) ^ (47:Nat); omega)
   refine sd ?_
   refine ar_add ?_ ?_
   refine an ?_ ?_
   (show (-9223372036854775808:Int)≤(0:Int)+(1:Int); omega)
   (show (0:Int)+(1:Int)≤(9223372036854775807:Int); omega)
   rotate_left
   all_goals exact fin
  ·rw [cN_pos hz,oN_pos hz]
   have fin:=fin _ (tys ((t.t).take k)++[Data.slice 2 (sws x)]).length hst.symm (by rw [List.length_append,hlr]; rfl)
   clear hst
   generalize tys ((t.t).take k)=W at *
   have hvi:=fun (Q:AExit→St→Prop)=>v29i1 (N:=N) (n:=k) (R:=W) (t:=t) (x:=x) (j:=k) (hr x (List.mem_of_getElem? hx)) (Q:=Q)
   refine sd ?_
   refine b_lt (fun t1=>?_) (fun t1=>?_)
   refine ix_at hx1 ?_ ?_
   (show (0:Int)≤(↑k:Int); omega)
   refine hvi _ ?_
   rotate_left
   (exfalso; omega)
   conv=>whnf
   rw [Nat.beq_refl]
   refine sd ?_
   refine sd ?_
   refine sd ?_
   refine an ?_ ?_
   refine an ?_ ?_
   exact rfl
   refine an ?_ ?_
   exact rfl
   refine an ?_ ?_
   assumption
   refine an ?_ ?_
   (show (List.length W+(1:Nat)) * (24:Nat)≤(2:Nat) ^ (47:Nat); omega)
   (show List.length W+(1:Nat)≤(2:Nat) ^ (47:Nat); omega)
   refine sd ?_
   refine ar_add ?_ ?_
   refine an ?_ ?_
   (show (-9223372036854775808:Int)≤(↑k:Int)+(1:Int); omega)
   (show (↑k:Int)+(1:Int)≤(9223372036854775807:Int); omega)
   rotate_left
   all_goals exact fin
 ·have e:k=(t.t).length:=by omega
  subst e
  rcases Nat.eq_zero_or_pos (t.t).length with hz | hz
  ·rw [hz] at hQ ⊢
   refine sd ?_
   refine b_lt (fun t1=>?_) (fun t1=>?_)
   (exfalso; omega)
   rotate_left
   exact hQ
  ·rw [cN_pos hz,oN_pos hz] at hQ ⊢
   refine sd ?_
   refine b_lt (fun t1=>?_) (fun t1=>?_)
   (exfalso; omega)
   rotate_left
   exact hQ
theorem v29b0 {N:Nat} {n:Nat} {R:List Data} {t:Tf} (hn:R.length=n) (hl:t.s.length≤1048576) {Q:AExit→St→Prop} (hQ:Q .normal ⟨[(1,.ptr 0 0),(2,.ptr 1 0),(3,.ptr 2 0)],[.cbox [.slice 1 (ints t.p),.slice 1 (tys t.t),.slice 8 (seas t.s),.slice 2 (sws t.b)],.box [.nils 1,.nils 1,.nils 8,.nils 2],.box [.d (.slice 1 (ints t.p)),.nils 1,(cN 8 10 t.s.length),.nils 2],.none,.none,.none,.none,.none,.none,.none,(oN 198 8 (fun k=>seas (t.s.take k)) t.s.length),.none,.none,.none]⟩):vc Tryz.prog N seg29b ⟨[(1,.ptr 0 0),(2,.ptr 1 0),(3,.ptr 2 0),(43,.d (.slice 8 (seas t.s))),(44,.d (.int .i64 (((seas t.s).length:Nat):Int))),(45,.d (.int .i64 (0)))],[.cbox [.slice 1 (ints t.p),.slice 1 (tys t.t),.slice 8 (seas t.s),.slice 2 (sws t.b)],.box [.nils 1,.nils 1,.nils 8,.nils 2],.box [.d (.slice 1 (ints t.p)),.nils 1,.nils 8,.nils 2],.none,.none,.none,.none,.none,.none,.none,.none,.none,.none,.none]⟩ Q:=by
 unfold seg29b
 have hlo:=seas_len t.s
 refine loop_st (fun k:Nat=>⟨[(1,.ptr 0 0),(2,.ptr 1 0),(3,.ptr 2 0),(43,.d (.slice 8 (seas t.s))),(44,.d (.int .i64 (((seas t.s).length:Nat):Int))),(45,.d (.int .i64 ((k:Nat))))],[.cbox [.slice 1 (ints t.p),.slice 1 (tys t.t),.slice 8 (seas t.s),.slice 2 (sws t.b)],.box [.nils 1,.nils 1,.nils 8,.nils 2],.box [.d (.slice 1 (ints t.p)),.nils 1,(cN 8 10 k),.nils 2],.none,.none,.none,.none,.none,.none,.none,(oN 198 8 (fun k=>seas (t.s.take k)) k),.none,.none,.none]⟩) (fun k=>k≤(t.s).length) (fun k=>(t.s).length - k) 0 rfl (Nat.zero_le _) ?_
 intro k hk
 have hk:k≤(t.s).length:=hk
 have hlr:(seas ((t.s).take k)).length=k:=by rw [seas_len,List.length_take]; omega
 dsimp only
 by_cases hkn:k < (t.s).length
 ·refine Exists.elim (get_lt (t.s) hkn) fun x hx=>?_
  have hx1:=seas_at hx
  have hst:=seas_step hx
  have fin:∀ (W:List Data) (q:Nat),W=seas ((t.s).take (k+1))→q=k+1→∃ a':Nat,(a'≤(t.s).length∧(t.s).length - a' < (t.s).length - k)∧(⟨[(1,.ptr 0 0),(2,.ptr 1 0),(3,.ptr 2 0),(43,.d (.slice 8 (seas t.s))),(44,.d (.int .i64 (((seas t.s).length:Nat):Int))),(45,.d (.int .i64 (((k:Int)+1))))],[.cbox [.slice 1 (ints t.p),.slice 1 (tys t.t),.slice 8 (seas t.s),.slice 2 (sws t.b)],.box [.nils 1,.nils 1,.nils 8,.nils 2],.box [.d (.slice 1 (ints t.p)),.nils 1,.sl 10 q,.nils 2],.none,.none,.none,.none,.none,.none,.none,.row 198 8 W false,.none,.none,.none]⟩:St)=⟨[(1,.ptr 0 0),(2,.ptr 1 0),(3,.ptr 2 0),(43,.d (.slice 8 (seas t.s))),(44,.d (.int .i64 (((seas t.s).length:Nat):Int))),(45,.d (.int .i64 ((a':Nat))))],[.cbox [.slice 1 (ints t.p),.slice 1 (tys t.t),.slice 8 (seas t.s),.slice 2 (sws t.b)],.box [.nils 1,.nils 1,.nils 8,.nils 2],.box [.d (.slice 1 (ints t.p)),.nils 1,(cN 8 10 a'),.nils 2],.none,.none,.none,.none,.none,.none,.none,(oN 198 8 (fun k=>seas (t.s.take k)) a'),.none,.none,.none]⟩:=fun W q e1 e2 =>
   ⟨k+1,⟨by omega,by omega⟩,by rw [e1,e2]; rfl⟩
  rcases Nat.eq_zero_or_pos k with hz | hz
  ·subst hz
   have fin:=fin ([Data.agg [.int .i64 x.f,.int .i64 x.a,.int .i64 x.b,.int .i64 x.c,.int .i64 x.d,.int .i64 x.e,.int .i64 x.g,.int .i64 x.h]]) 1 hst.symm rfl
   refine sd ?_
   refine b_lt (fun t1=>?_) (fun t1=>?_)
   refine ix_at hx1 ?_ ?_
   (show (0:Int)≤(↑(0:Nat):Int); omega)
   refine sd ?_
   refine sd ?_
   refine sd ?_
   refine an ?_ ?_
   refine an ?_ ?_
   (show (1:Nat) * (64:Nat)≤(2:Nat) ^ (47:Nat); omega)
   (show (1:Nat)≤(2:Nat) ^ (47:Nat); omega)
   refine sd ?_
   refine ar_add ?_ ?_
   refine an ?_ ?_
   (show (-9223372036854775808:Int)≤(↑(0:Nat):Int)+(1:Int); omega)
   (show (↑(0:Nat):Int)+(1:Int)≤(9223372036854775807:Int); omega)
   rotate_left
   (exfalso; omega)
   all_goals exact fin
  ·rw [cN_pos hz,oN_pos hz]
   have fin:=fin _ (seas ((t.s).take k)++[Data.agg [.int .i64 x.f,.int .i64 x.a,.int .i64 x.b,.int .i64 x.c,.int .i64 x.d,.int .i64 x.e,.int .i64 x.g,.int .i64 x.h]]).length hst.symm (by rw [List.length_append,hlr]; rfl)
   clear hst
   generalize seas ((t.s).take k)=W at *
   refine sd ?_
   refine b_lt (fun t1=>?_) (fun t1=>?_)
   refine ix_at hx1 ?_ ?_
   (show (0:Int)≤(↑k:Int); omega)
   refine sd ?_
   refine sd ?_
   refine sd ?_
   refine an ?_ ?_
   refine an ?_ ?_
   exact rfl
   refine an ?_ ?_
   exact rfl
   refine an ?_ ?_
   assumption
   refine an ?_ ?_
   (show (List.length W+(1:Nat)) * (64:Nat)≤(2:Nat) ^ (47:Nat); omega)
   (show List.length W+(1:Nat)≤(2:Nat) ^ (47:Nat); omega)
   refine sd ?_
   refine ar_add ?_ ?_
   refine an ?_ ?_
   (show (-9223372036854775808:Int)≤(↑k:Int)+(1:Int); omega)
   (show (↑k:Int)+(1:Int)≤(9223372036854775807:Int); omega)
   rotate_left
   (exfalso; omega)
   all_goals exact fin
 ·have e:k=(t.s).length:=by omega
  subst e
  rcases Nat.eq_zero_or_pos (t.s).length with hz | hz
  ·rw [hz] at hQ ⊢
   refine sd ?_
   refine b_lt (fun t1=>?_) (fun t1=>?_)
   (exfalso; omega)
   rotate_left
   exact hQ
  ·rw [cN_pos hz,oN_pos hz] at hQ ⊢
   refine sd ?_
   refine b_lt (fun t1=>?_) (fun t1=>?_)
   (exfalso; omega)
   rotate_left
   exact hQ
theorem v29b1 {N:Nat} {n:Nat} {R:List Data} {t:Tf} (hn:R.length=n) (hl:t.s.length≤1048576) {Q:AExit→St→Prop} (hQ:Q .normal ⟨[(1,.ptr 0 0),(2,.ptr 1 0),(3,.ptr 2 0)],[.cbox [.slice 1 (ints t.p),.slice 1 (tys t.t),.slice 8 (seas t.s),.slice 2 (sws t.b)],.box [.nils 1,.nils 1,.nils 8,.nils 2],.box [.d (.slice 1 (ints t.p)),.sl 7 n,(cN 8 10 t.s.length),.nils 2],.none,.none,.none,.none,.row 187 1 R false,.none,.none,(oN 198 8 (fun k=>seas (t.s.take k)) t.s.length),.none,.none,.none]⟩):vc Tryz.prog N seg29b ⟨[(1,.ptr 0 0),(2,.ptr 1 0),(3,.ptr 2 0),(43,.d (.slice 8 (seas t.s))),(44,.d (.int .i64 (((seas t.s).length:Nat):Int))),(45,.d (.int .i64 (0)))],[.cbox [.slice 1 (ints t.p),.slice 1 (tys t.t),.slice 8 (seas t.s),.slice 2 (sws t.b)],.box [.nils 1,.nils 1,.nils 8,.nils 2],.box [.d (.slice 1 (ints t.p)),.sl 7 n,.nils 8,.nils 2],.none,.none,.none,.none,.row 187 1 R false,.none,.none,.none,.none,.none,.none]⟩ Q:=by
 unfold seg29b
 have hlo:=seas_len t.s
 refine loop_st (fun k:Nat=>⟨[(1,.ptr 0 0),(2,.ptr 1 0),(3,.ptr 2 0),(43,.d (.slice 8 (seas t.s))),(44,.d (.int .i64 (((seas t.s).length:Nat):Int))),(45,.d (.int .i64 ((k:Nat))))],[.cbox [.slice 1 (ints t.p),.slice 1 (tys t.t),.slice 8 (seas t.s),.slice 2 (sws t.b)],.box [.nils 1,.nils 1,.nils 8,.nils 2],.box [.d (.slice 1 (ints t.p)),.sl 7 n,(cN 8 10 k),.nils 2],.none,.none,.none,.none,.row 187 1 R false,.none,.none,(oN 198 8 (fun k=>seas (t.s.take k)) k),.none,.none,.none]⟩) (fun k=>k≤(t.s).length) (fun k=>(t.s).length - k) 0 rfl (Nat.zero_le _) ?_
 intro k hk
 have hk:k≤(t.s).length:=hk
 have hlr:(seas ((t.s).take k)).length=k:=by rw [seas_len,List.length_take]; omega
 dsimp only
 by_cases hkn:k < (t.s).length
 ·refine Exists.elim (get_lt (t.s) hkn) fun x hx=>?_
  have hx1:=seas_at hx
  have hst:=seas_step hx
  have fin:∀ (W:List Data) (q:Nat),W=seas ((t.s).take (k+1))→q=k+1→∃ a':Nat,(a'≤(t.s).length∧(t.s).length - a' < (t.s).length - k)∧(⟨[(1,.ptr 0 0),(2,.ptr 1 0),(3,.ptr 2 0),(43,.d (.slice 8 (seas t.s))),(44,.d (.int .i64 (((seas t.s).length:Nat):Int))),(45,.d (.int .i64 (((k:Int)+1))))],[.cbox [.slice 1 (ints t.p),.slice 1 (tys t.t),.slice 8 (seas t.s),.slice 2 (sws t.b)],.box [.nils 1,.nils 1,.nils 8,.nils 2],.box [.d (.slice 1 (ints t.p)),.sl 7 n,.sl 10 q,.nils 2],.none,.none,.none,.none,.row 187 1 R false,.none,.none,.row 198 8 W false,.none,.none,.none]⟩:St)=⟨[(1,.ptr 0 0),(2,.ptr 1 0),(3,.ptr 2 0),(43,.d (.slice 8 (seas t.s))),(44,.d (.int .i64 (((seas t.s).length:Nat):Int))),(45,.d (.int .i64 ((a':Nat))))],[.cbox [.slice 1 (ints t.p),.slice 1 (tys t.t),.slice 8 (seas t.s),.slice 2 (sws t.b)],.box [.nils 1,.nils 1,.nils 8,.nils 2],.box [.d (.slice 1 (ints t.p)),.sl 7 n,(cN 8 10 a'),.nils 2],.none,.none,.none,.none,.row 187 1 R false,.none,.none,(oN 198 8 (fun k=>seas (t.s.take k)) a'),.none,.none,.none]⟩:=fun W q e1 e2 =>
   ⟨k+1,⟨by omega,by omega⟩,by rw [e1,e2]; rfl⟩
  rcases Nat.eq_zero_or_pos k with hz | hz
  ·subst hz
   have fin:=fin ([Data.agg [.int .i64 x.f,.int .i64 x.a,.int .i64 x.b,.int .i64 x.c,.int .i64 x.d,.int .i64 x.e,.int .i64 x.g,.int .i64 x.h]]) 1 hst.symm rfl
   refine sd ?_
   refine b_lt (fun t1=>?_) (fun t1=>?_)
   refine ix_at hx1 ?_ ?_
   (show (0:Int)≤(↑(0:Nat):Int); omega)
   refine sd ?_
   refine sd ?_
   refine sd ?_
   refine an ?_ ?_
   refine an ?_ ?_
   (show (1:Nat) * (64:Nat)≤(2:Nat) ^ (47:Nat); omega)
   (show (1:Nat)≤(2:Nat) ^ (47:Nat); omega)
   refine sd ?_
   refine ar_add ?_ ?_
   refine an ?_ ?_
   (show (-9223372036854775808:Int)≤(↑(0:Nat):Int)+(1:Int); omega)
   (show (↑(0:Nat):Int)+(1:Int)≤(9223372036854775807:Int); omega)
   rotate_left
   (exfalso; omega)
   all_goals exact fin
  ·rw [cN_pos hz,oN_pos hz]
   have fin:=fin _ (seas ((t.s).take k)++[Data.agg [.int .i64 x.f,.int .i64 x.a,.int .i64 x.b,.int .i64 x.c,.int .i64 x.d,.int .i64 x.e,.int .i64 x.g,.int .i64 x.h]]).length hst.symm (by rw [List.length_append,hlr]; rfl)
   clear hst
   generalize seas ((t.s).take k)=W at *
   refine sd ?_
   refine b_lt (fun t1=>?_) (fun t1=>?_)
   refine ix_at hx1 ?_ ?_
   (show (0:Int)≤(↑k:Int); omega)
   refine sd ?_
   refine sd ?_
   refine sd ?_
   refine an ?_ ?_
   refine an ?_ ?_
   exact rfl
   refine an ?_ ?_
   exact rfl
   refine an ?_ ?_
   assumption
   refine an ?_ ?_
   (show (List.length W+(1:Nat)) * (64:Nat)≤(2:Nat) ^ (47:Nat); omega)
   (show List.length W+(1:Nat)≤(2:Nat) ^ (47:Nat); omega)
   refine sd ?_
   refine ar_add ?_ ?_
   refine an ?_ ?_
   (show (-9223372036854775808:Int)≤(↑k:Int)+(1:Int); omega)
   (show (↑k:Int)+(1:Int)≤(9223372036854775807:Int); omega)
   rotate_left
   (exfalso; omega)
   all_goals exact fin
 ·have e:k=(t.s).length:=by omega
  subst e
  rcases Nat.eq_zero_or_pos (t.s).length with hz | hz
  ·rw [hz] at hQ ⊢
   refine sd ?_
   refine b_lt (fun t1=>?_) (fun t1=>?_)
   (exfalso; omega)
   rotate_left
   exact hQ
  ·rw [cN_pos hz,oN_pos hz] at hQ ⊢
   refine sd ?_
   refine b_lt (fun t1=>?_) (fun t1=>?_)
   (exfalso; omega)
   rotate_left
   exact hQ
theorem v29c00 {N:Nat} {n m:Nat} {R S:List Data} {t:Tf} (hn:R.length=n) (hm:S.length=m) (hl:t.b.length≤1048576) {Q:AExit→St→Prop} (hQ:Q .normal ⟨[(2,.ptr 1 0),(3,.ptr 2 0)],[.none,.box [.nils 1,.nils 1,.nils 8,.nils 2],.box [.d (.slice 1 (ints t.p)),.nils 1,.nils 8,(cN 2 13 t.b.length)],.none,.none,.none,.none,.none,.none,.none,.none,.none,.none,(oN 199 2 (fun k=>sws (t.b.take k)) t.b.length)]⟩):vc Tryz.prog N seg29c ⟨[(2,.ptr 1 0),(3,.ptr 2 0),(57,.d (.slice 2 (sws t.b))),(58,.d (.int .i64 (((sws t.b).length:Nat):Int))),(59,.d (.int .i64 (0)))],[.none,.box [.nils 1,.nils 1,.nils 8,.nils 2],.box [.d (.slice 1 (ints t.p)),.nils 1,.nils 8,.nils 2],.none,.none,.none,.none,.none,.none,.none,.none,.none,.none,.none]⟩ Q:=by
 unfold seg29c
 have hlo:=sws_len t.b
 refine loop_st (fun k:Nat=>⟨[(2,.ptr 1 0),(3,.ptr 2 0),(57,.d (.slice 2 (sws t.b))),(58,.d (.int .i64 (((sws t.b).length:Nat):Int))),(59,.d (.int .i64 ((k:Nat))))],[.none,.box [.nils 1,.nils 1,.nils 8,.nils 2],.box [.d (.slice 1 (ints t.p)),.nils 1,.nils 8,(cN 2 13 k)],.none,.none,.none,.none,.none,.none,.none,.none,.none,.none,(oN 199 2 (fun k=>sws (t.b.take k)) k)]⟩) (fun k=>k≤(t.b).length) (fun k=>(t.b).length - k) 0 rfl (Nat.zero_le _) ?_
 intro k hk
 have hk:k≤(t.b).length:=hk
 have hlr:(sws ((t.b).take k)).length=k:=by rw [sws_len,List.length_take]; omega
 dsimp only
 by_cases hkn:k < (t.b).length
 ·refine Exists.elim (get_lt (t.b) hkn) fun x hx=>?_
  have hx1:=sws_at hx
  have hst:=sws_step hx
  have fin:∀ (W:List Data) (q:Nat),W=sws ((t.b).take (k+1))→q=k+1→∃ a':Nat,(a'≤(t.b).length∧(t.b).length - a' < (t.b).length - k)∧(⟨[(2,.ptr 1 0),(3,.ptr 2 0),(57,.d (.slice 2 (sws t.b))),(58,.d (.int .i64 (((sws t.b).length:Nat):Int))),(59,.d (.int .i64 (((k:Int)+1))))],[.none,.box [.nils 1,.nils 1,.nils 8,.nils 2],.box [.d (.slice 1 (ints t.p)),.nils 1,.nils 8,.sl 13 q],.none,.none,.none,.none,.none,.none,.none,.none,.none,.none,.row 199 2 W false]⟩:St)=⟨[(2,.ptr 1 0),(3,.ptr 2 0),(57,.d (.slice 2 (sws t.b))),(58,.d (.int .i64 (((sws t.b).length:Nat):Int))),(59,.d (.int .i64 ((a':Nat))))],[.none,.box [.nils 1,.nils 1,.nils 8,.nils 2],.box [.d (.slice 1 (ints t.p)),.nils 1,.nils 8,(cN 2 13 a')],.none,.none,.none,.none,.none,.none,.none,.none,.none,.none,(oN 199 2 (fun k=>sws (t.b.take k)) a')]⟩:=fun W q e1 e2 =>
   ⟨k+1,⟨by omega,by omega⟩,by rw [e1,e2]; rfl⟩
  rcases Nat.eq_zero_or_pos k with hz | hz
  ·subst hz
   have fin:=fin ([Data.agg [.int .i64 x.1,.int .i64 x.2]]) 1 hst.symm rfl
   refine sd ?_
   refine b_lt (fun t1=>?_) (fun t1=>?_)
   refine ix_at hx1 ?_ ?_
   (show (0:Int)≤(↑(0:Nat):Int); omega)
   refine sd ?_
   refine sd ?_
   refine sd ?_
   refine an ?_ ?_
   refine an ?_ ?_
   (show (1:Nat) * (16:Nat)≤(2:Nat) ^ (47:Nat); omega)
   (show (1:Nat)≤(2:Nat) ^ (47:Nat); omega)
   refine sd ?_
   refine ar_add ?_ ?_
   refine an ?_ ?_
   (show (-9223372036854775808:Int)≤(↑(0:Nat):Int)+(1:Int); omega)
   (show (↑(0:Nat):Int)+(1:Int)≤(9223372036854775807:Int); omega)
   rotate_left
   (exfalso; omega)
   all_goals exact fin
  ·rw [cN_pos hz,oN_pos hz]
   have fin:=fin _ (sws ((t.b).take k)++[Data.agg [.int .i64 x.1,.int .i64 x.2]]).length hst.symm (by rw [List.length_append,hlr]; rfl)
   clear hst
   generalize sws ((t.b).take k)=W at *
   refine sd ?_
   refine b_lt (fun t1=>?_) (fun t1=>?_)
   refine ix_at hx1 ?_ ?_
   (show (0:Int)≤(↑k:Int); omega)
   refine sd ?_
   refine sd ?_
   refine sd ?_
   refine an ?_ ?_
   refine an ?_ ?_
   exact rfl
   refine an ?_ ?_
   exact rfl
   refine an ?_ ?_
   assumption
   refine an ?_ ?_
   (show (List.length W+(1:Nat)) * (16:Nat)≤(2:Nat) ^ (47:Nat); omega)
   (show List.length W+(1:Nat)≤(2:Nat) ^ (47:Nat); omega)
   refine sd ?_
   refine ar_add ?_ ?_
   refine an ?_ ?_
   (show (-9223372036854775808:Int)≤(↑k:Int)+(1:Int); omega)
   (show (↑k:Int)+(1:Int)≤(9223372036854775807:Int); omega)
   rotate_left
   (exfalso; omega)
   all_goals exact fin
 ·have e:k=(t.b).length:=by omega
  subst e
  rcases Nat.eq_zero_or_pos (t.b).length with hz | hz
  ·rw [hz] at hQ ⊢
   refine sd ?_
   refine b_lt (fun t1=>?_) (fun t1=>?_)
   (exfalso; omega)
   rotate_left
   exact hQ
  ·rw [cN_pos hz,oN_pos hz] at hQ ⊢
   refine sd ?_
   refine b_lt (fun t1=>?_) (fun t1=>?_)
   (exfalso; omega)
   rotate_left
   exact hQ
theorem v29c01 {N:Nat} {n m:Nat} {R S:List Data} {t:Tf} (hn:R.length=n) (hm:S.length=m) (hl:t.b.length≤1048576) {Q:AExit→St→Prop} (hQ:Q .normal ⟨[(2,.ptr 1 0),(3,.ptr 2 0)],[.none,.box [.nils 1,.nils 1,.nils 8,.nils 2],.box [.d (.slice 1 (ints t.p)),.nils 1,.sl 10 m,(cN 2 13 t.b.length)],.none,.none,.none,.none,.none,.none,.none,.row 198 8 S false,.none,.none,(oN 199 2 (fun k=>sws (t.b.take k)) t.b.length)]⟩):vc Tryz.prog N seg29c ⟨[(2,.ptr 1 0),(3,.ptr 2 0),(57,.d (.slice 2 (sws t.b))),(58,.d (.int .i64 (((sws t.b).length:Nat):Int))),(59,.d (.int .i64 (0)))],[.none,.box [.nils 1,.nils 1,.nils 8,.nils 2],.box [.d (.slice 1 (ints t.p)),.nils 1,.sl 10 m,.nils 2],.none,.none,.none,.none,.none,.none,.none,.row 198 8 S false,.none,.none,.none]⟩ Q:=by
 unfold seg29c
 have hlo:=sws_len t.b
 refine loop_st (fun k:Nat=>⟨[(2,.ptr 1 0),(3,.ptr 2 0),(57,.d (.slice 2 (sws t.b))),(58,.d (.int .i64 (((sws t.b).length:Nat):Int))),(59,.d (.int .i64 ((k:Nat))))],[.none,.box [.nils 1,.nils 1,.nils 8,.nils 2],.box [.d (.slice 1 (ints t.p)),.nils 1,.sl 10 m,(cN 2 13 k)],.none,.none,.none,.none,.none,.none,.none,.row 198 8 S false,.none,.none,(oN 199 2 (fun k=>sws (t.b.take k)) k)]⟩) (fun k=>k≤(t.b).length) (fun k=>(t.b).length - k) 0 rfl (Nat.zero_le _) ?_
 intro k hk
 have hk:k≤(t.b).length:=hk
 have hlr:(sws ((t.b).take k)).length=k:=by rw [sws_len,List.length_take]; omega
 dsimp only
 by_cases hkn:k < (t.b).length
 ·refine Exists.elim (get_lt (t.b) hkn) fun x hx=>?_
  have hx1:=sws_at hx
  have hst:=sws_step hx
  have fin:∀ (W:List Data) (q:Nat),W=sws ((t.b).take (k+1))→q=k+1→∃ a':Nat,(a'≤(t.b).length∧(t.b).length - a' < (t.b).length - k)∧(⟨[(2,.ptr 1 0),(3,.ptr 2 0),(57,.d (.slice 2 (sws t.b))),(58,.d (.int .i64 (((sws t.b).length:Nat):Int))),(59,.d (.int .i64 (((k:Int)+1))))],[.none,.box [.nils 1,.nils 1,.nils 8,.nils 2],.box [.d (.slice 1 (ints t.p)),.nils 1,.sl 10 m,.sl 13 q],.none,.none,.none,.none,.none,.none,.none,.row 198 8 S false,.none,.none,.row 199 2 W false]⟩:St)=⟨[(2,.ptr 1 0),(3,.ptr 2 0),(57,.d (.slice 2 (sws t.b))),(58,.d (.int .i64 (((sws t.b).length:Nat):Int))),(59,.d (.int .i64 ((a':Nat))))],[.none,.box [.nils 1,.nils 1,.nils 8,.nils 2],.box [.d (.slice 1 (ints t.p)),.nils 1,.sl 10 m,(cN 2 13 a')],.none,.none,.none,.none,.none,.none,.none,.row 198 8 S false,.none,.none,(oN 199 2 (fun k=>sws (t.b.take k)) a')]⟩:=fun W q e1 e2 =>
   ⟨k+1,⟨by omega,by omega⟩,by rw [e1,e2]; rfl⟩
  rcases Nat.eq_zero_or_pos k with hz | hz
  ·subst hz
   have fin:=fin ([Data.agg [.int .i64 x.1,.int .i64 x.2]]) 1 hst.symm rfl
   refine sd ?_
   refine b_lt (fun t1=>?_) (fun t1=>?_)
   refine ix_at hx1 ?_ ?_
   (show (0:Int)≤(↑(0:Nat):Int); omega)
   refine sd ?_
   refine sd ?_
   refine sd ?_
   refine an ?_ ?_
   refine an ?_ ?_
   (show (1:Nat) * (16:Nat)≤(2:Nat) ^ (47:Nat); omega)
   (show (1:Nat)≤(2:Nat) ^ (47:Nat); omega)
   refine sd ?_
   refine ar_add ?_ ?_
   refine an ?_ ?_
   (show (-9223372036854775808:Int)≤(↑(0:Nat):Int)+(1:Int); omega)
   (show (↑(0:Nat):Int)+(1:Int)≤(9223372036854775807:Int); omega)
   rotate_left
   (exfalso; omega)
   all_goals exact fin
  ·rw [cN_pos hz,oN_pos hz]
   have fin:=fin _ (sws ((t.b).take k)++[Data.agg [.int .i64 x.1,.int .i64 x.2]]).length hst.symm (by rw [List.length_append,hlr]; rfl)
   clear hst
   generalize sws ((t.b).take k)=W at *
   refine sd ?_
   refine b_lt (fun t1=>?_) (fun t1=>?_)
   refine ix_at hx1 ?_ ?_
   (show (0:Int)≤(↑k:Int); omega)
   refine sd ?_
   refine sd ?_
   refine sd ?_
   refine an ?_ ?_
   refine an ?_ ?_
   exact rfl
   refine an ?_ ?_
   exact rfl
   refine an ?_ ?_
   assumption
   refine an ?_ ?_
   (show (List.length W+(1:Nat)) * (16:Nat)≤(2:Nat) ^ (47:Nat); omega)
   (show List.length W+(1:Nat)≤(2:Nat) ^ (47:Nat); omega)
   refine sd ?_
   refine ar_add ?_ ?_
   refine an ?_ ?_
   (show (-9223372036854775808:Int)≤(↑k:Int)+(1:Int); omega)
   (show (↑k:Int)+(1:Int)≤(9223372036854775807:Int); omega)
   rotate_left
   (exfalso; omega)
   all_goals exact fin
 ·have e:k=(t.b).length:=by omega
  subst e
  rcases Nat.eq_zero_or_pos (t.b).length with hz | hz
  ·rw [hz] at hQ ⊢
   refine sd ?_
   refine b_lt (fun t1=>?_) (fun t1=>?_)
   (exfalso; omega)
   rotate_left
   exact hQ
  ·rw [cN_pos hz,oN_pos hz] at hQ ⊢
   refine sd ?_
   refine b_lt (fun t1=>?_) (fun t1=>?_)
   (exfalso; omega)
   rotate_left
   exact hQ
theorem v29c10 {N:Nat} {n m:Nat} {R S:List Data} {t:Tf} (hn:R.length=n) (hm:S.length=m) (hl:t.b.length≤1048576) {Q:AExit→St→Prop} (hQ:Q .normal ⟨[(2,.ptr 1 0),(3,.ptr 2 0)],[.none,.box [.nils 1,.nils 1,.nils 8,.nils 2],.box [.d (.slice 1 (ints t.p)),.sl 7 n,.nils 8,(cN 2 13 t.b.length)],.none,.none,.none,.none,.row 187 1 R false,.none,.none,.none,.none,.none,(oN 199 2 (fun k=>sws (t.b.take k)) t.b.length)]⟩):vc Tryz.prog N seg29c ⟨[(2,.ptr 1 0),(3,.ptr 2 0),(57,.d (.slice 2 (sws t.b))),(58,.d (.int .i64 (((sws t.b).length:Nat):Int))),(59,.d (.int .i64 (0)))],[.none,.box [.nils 1,.nils 1,.nils 8,.nils 2],.box [.d (.slice 1 (ints t.p)),.sl 7 n,.nils 8,.nils 2],.none,.none,.none,.none,.row 187 1 R false,.none,.none,.none,.none,.none,.none]⟩ Q:=by
 unfold seg29c
 have hlo:=sws_len t.b
 refine loop_st (fun k:Nat=>⟨[(2,.ptr 1 0),(3,.ptr 2 0),(57,.d (.slice 2 (sws t.b))),(58,.d (.int .i64 (((sws t.b).length:Nat):Int))),(59,.d (.int .i64 ((k:Nat))))],[.none,.box [.nils 1,.nils 1,.nils 8,.nils 2],.box [.d (.slice 1 (ints t.p)),.sl 7 n,.nils 8,(cN 2 13 k)],.none,.none,.none,.none,.row 187 1 R false,.none,.none,.none,.none,.none,(oN 199 2 (fun k=>sws (t.b.take k)) k)]⟩) (fun k=>k≤(t.b).length) (fun k=>(t.b).length - k) 0 rfl (Nat.zero_le _) ?_
 intro k hk
 have hk:k≤(t.b).length:=hk
 have hlr:(sws ((t.b).take k)).length=k:=by rw [sws_len,List.length_take]; omega
 dsimp only
 by_cases hkn:k < (t.b).length
 ·refine Exists.elim (get_lt (t.b) hkn) fun x hx=>?_
  have hx1:=sws_at hx
  have hst:=sws_step hx
  have fin:∀ (W:List Data) (q:Nat),W=sws ((t.b).take (k+1))→q=k+1→∃ a':Nat,(a'≤(t.b).length∧(t.b).length - a' < (t.b).length - k)∧(⟨[(2,.ptr 1 0),(3,.ptr 2 0),(57,.d (.slice 2 (sws t.b))),(58,.d (.int .i64 (((sws t.b).length:Nat):Int))),(59,.d (.int .i64 (((k:Int)+1))))],[.none,.box [.nils 1,.nils 1,.nils 8,.nils 2],.box [.d (.slice 1 (ints t.p)),.sl 7 n,.nils 8,.sl 13 q],.none,.none,.none,.none,.row 187 1 R false,.none,.none,.none,.none,.none,.row 199 2 W false]⟩:St)=⟨[(2,.ptr 1 0),(3,.ptr 2 0),(57,.d (.slice 2 (sws t.b))),(58,.d (.int .i64 (((sws t.b).length:Nat):Int))),(59,.d (.int .i64 ((a':Nat))))],[.none,.box [.nils 1,.nils 1,.nils 8,.nils 2],.box [.d (.slice 1 (ints t.p)),.sl 7 n,.nils 8,(cN 2 13 a')],.none,.none,.none,.none,.row 187 1 R false,.none,.none,.none,.none,.none,(oN 199 2 (fun k=>sws (t.b.take k)) a')]⟩:=fun W q e1 e2 =>
   ⟨k+1,⟨by omega,by omega⟩,by rw [e1,e2]; rfl⟩
  rcases Nat.eq_zero_or_pos k with hz | hz
  ·subst hz
   have fin:=fin ([Data.agg [.int .i64 x.1,.int .i64 x.2]]) 1 hst.symm rfl
   refine sd ?_
   refine b_lt (fun t1=>?_) (fun t1=>?_)
   refine ix_at hx1 ?_ ?_
   (show (0:Int)≤(↑(0:Nat):Int); omega)
   refine sd ?_
   refine sd ?_
   refine sd ?_
   refine an ?_ ?_
   refine an ?_ ?_
   (show (1:Nat) * (16:Nat)≤(2:Nat) ^ (47:Nat); omega)
   (show (1:Nat)≤(2:Nat) ^ (47:Nat); omega)
   refine sd ?_
   refine ar_add ?_ ?_
   refine an ?_ ?_
   (show (-9223372036854775808:Int)≤(↑(0:Nat):Int)+(1:Int); omega)
   (show (↑(0:Nat):Int)+(1:Int)≤(9223372036854775807:Int); omega)
   rotate_left
   (exfalso; omega)
   all_goals exact fin
  ·rw [cN_pos hz,oN_pos hz]
   have fin:=fin _ (sws ((t.b).take k)++[Data.agg [.int .i64 x.1,.int .i64 x.2]]).length hst.symm (by rw [List.length_append,hlr]; rfl)
   clear hst
   generalize sws ((t.b).take k)=W at *
   refine sd ?_
   refine b_lt (fun t1=>?_) (fun t1=>?_)
   refine ix_at hx1 ?_ ?_
   (show (0:Int)≤(↑k:Int); omega)
   refine sd ?_
   refine sd ?_
   refine sd ?_
   refine an ?_ ?_
   refine an ?_ ?_
   exact rfl
   refine an ?_ ?_
   exact rfl
   refine an ?_ ?_
   assumption
   refine an ?_ ?_
   (show (List.length W+(1:Nat)) * (16:Nat)≤(2:Nat) ^ (47:Nat); omega)
   (show List.length W+(1:Nat)≤(2:Nat) ^ (47:Nat); omega)
   refine sd ?_
   refine ar_add ?_ ?_
   refine an ?_ ?_
   (show (-9223372036854775808:Int)≤(↑k:Int)+(1:Int); omega)
   (show (↑k:Int)+(1:Int)≤(9223372036854775807:Int); omega)
   rotate_left
   (exfalso; omega)
   all_goals exact fin
 ·have e:k=(t.b).length:=by omega
  subst e
  rcases Nat.eq_zero_or_pos (t.b).length with hz | hz
  ·rw [hz] at hQ ⊢
   refine sd ?_
   refine b_lt (fun t1=>?_) (fun t1=>?_)
   (exfalso; omega)
   rotate_left
   exact hQ
  ·rw [cN_pos hz,oN_pos hz] at hQ ⊢
   refine sd ?_
   refine b_lt (fun t1=>?_) (fun t1=>?_)
   (exfalso; omega)
   rotate_left
   exact hQ
theorem v29c11 {N:Nat} {n m:Nat} {R S:List Data} {t:Tf} (hn:R.length=n) (hm:S.length=m) (hl:t.b.length≤1048576) {Q:AExit→St→Prop} (hQ:Q .normal ⟨[(2,.ptr 1 0),(3,.ptr 2 0)],[.none,.box [.nils 1,.nils 1,.nils 8,.nils 2],.box [.d (.slice 1 (ints t.p)),.sl 7 n,.sl 10 m,(cN 2 13 t.b.length)],.none,.none,.none,.none,.row 187 1 R false,.none,.none,.row 198 8 S false,.none,.none,(oN 199 2 (fun k=>sws (t.b.take k)) t.b.length)]⟩):vc Tryz.prog N seg29c ⟨[(2,.ptr 1 0),(3,.ptr 2 0),(57,.d (.slice 2 (sws t.b))),(58,.d (.int .i64 (((sws t.b).length:Nat):Int))),(59,.d (.int .i64 (0)))],[.none,.box [.nils 1,.nils 1,.nils 8,.nils 2],.box [.d (.slice 1 (ints t.p)),.sl 7 n,.sl 10 m,.nils 2],.none,.none,.none,.none,.row 187 1 R false,.none,.none,.row 198 8 S false,.none,.none,.none]⟩ Q:=by
 unfold seg29c
 have hlo:=sws_len t.b
 refine loop_st (fun k:Nat=>⟨[(2,.ptr 1 0),(3,.ptr 2 0),(57,.d (.slice 2 (sws t.b))),(58,.d (.int .i64 (((sws t.b).length:Nat):Int))),(59,.d (.int .i64 ((k:Nat))))],[.none,.box [.nils 1,.nils 1,.nils 8,.nils 2],.box [.d (.slice 1 (ints t.p)),.sl 7 n,.sl 10 m,(cN 2 13 k)],.none,.none,.none,.none,.row 187 1 R false,.none,.none,.row 198 8 S false,.none,.none,(oN 199 2 (fun k=>sws (t.b.take k)) k)]⟩) (fun k=>k≤(t.b).length) (fun k=>(t.b).length - k) 0 rfl (Nat.zero_le _) ?_
 intro k hk
 have hk:k≤(t.b).length:=hk
 have hlr:(sws ((t.b).take k)).length=k:=by rw [sws_len,List.length_take]; omega
 dsimp only
 by_cases hkn:k < (t.b).length
 ·refine Exists.elim (get_lt (t.b) hkn) fun x hx=>?_
  have hx1:=sws_at hx
  have hst:=sws_step hx
  have fin:∀ (W:List Data) (q:Nat),W=sws ((t.b).take (k+1))→q=k+1→∃ a':Nat,(a'≤(t.b).length∧(t.b).length - a' < (t.b).length - k)∧(⟨[(2,.ptr 1 0),(3,.ptr 2 0),(57,.d (.slice 2 (sws t.b))),(58,.d (.int .i64 (((sws t.b).length:Nat):Int))),(59,.d (.int .i64 (((k:Int)+1))))],[.none,.box [.nils 1,.nils 1,.nils 8,.nils 2],.box [.d (.slice 1 (ints t.p)),.sl 7 n,.sl 10 m,.sl 13 q],.none,.none,.none,.none,.row 187 1 R false,.none,.none,.row 198 8 S false,.none,.none,.row 199 2 W false]⟩:St)=⟨[(2,.ptr 1 0),(3,.ptr 2 0),(57,.d (.slice 2 (sws t.b))),(58,.d (.int .i64 (((sws t.b).length:Nat):Int))),(59,.d (.int .i64 ((a':Nat))))],[.none,.box [.nils 1,.nils 1,.nils 8,.nils 2],.box [.d (.slice 1 (ints t.p)),.sl 7 n,.sl 10 m,(cN 2 13 a')],.none,.none,.none,.none,.row 187 1 R false,.none,.none,.row 198 8 S false,.none,.none,(oN 199 2 (fun k=>sws (t.b.take k)) a')]⟩:=fun W q e1 e2 =>
   ⟨k+1,⟨by omega,by omega⟩,by rw [e1,e2]; rfl⟩
  rcases Nat.eq_zero_or_pos k with hz | hz
  ·subst hz
   have fin:=fin ([Data.agg [.int .i64 x.1,.int .i64 x.2]]) 1 hst.symm rfl
   refine sd ?_
   refine b_lt (fun t1=>?_) (fun t1=>?_)
   refine ix_at hx1 ?_ ?_
   (show (0:Int)≤(↑(0:Nat):Int); omega)
   refine sd ?_
   refine sd ?_
   refine sd ?_
   refine an ?_ ?_
   refine an ?_ ?_
   (show (1:Nat) * (16:Nat)≤(2:Nat) ^ (47:Nat); omega)
   (show (1:Nat)≤(2:Nat) ^ (47:Nat); omega)
   refine sd ?_
   refine ar_add ?_ ?_
   refine an ?_ ?_
   (show (-9223372036854775808:Int)≤(↑(0:Nat):Int)+(1:Int); omega)
   (show (↑(0:Nat):Int)+(1:Int)≤(9223372036854775807:Int); omega)
   rotate_left
   (exfalso; omega)
   all_goals exact fin
  ·rw [cN_pos hz,oN_pos hz]
   have fin:=fin _ (sws ((t.b).take k)++[Data.agg [.int .i64 x.1,.int .i64 x.2]]).length hst.symm (by rw [List.length_append,hlr]; rfl)
   clear hst
   generalize sws ((t.b).take k)=W at *
   refine sd ?_
   refine b_lt (fun t1=>?_) (fun t1=>?_)
   refine ix_at hx1 ?_ ?_
   (show (0:Int)≤(↑k:Int); omega)
   refine sd ?_
   refine sd ?_
   refine sd ?_
   refine an ?_ ?_
   refine an ?_ ?_
   exact rfl
   refine an ?_ ?_
   exact rfl
   refine an ?_ ?_
   assumption
   refine an ?_ ?_
   (show (List.length W+(1:Nat)) * (16:Nat)≤(2:Nat) ^ (47:Nat); omega)
   (show List.length W+(1:Nat)≤(2:Nat) ^ (47:Nat); omega)
   refine sd ?_
   refine ar_add ?_ ?_
   refine an ?_ ?_
   (show (-9223372036854775808:Int)≤(↑k:Int)+(1:Int); omega)
   (show (↑k:Int)+(1:Int)≤(9223372036854775807:Int); omega)
   rotate_left
   (exfalso; omega)
   all_goals exact fin
 ·have e:k=(t.b).length:=by omega
  subst e
  rcases Nat.eq_zero_or_pos (t.b).length with hz | hz
  ·rw [hz] at hQ ⊢
   refine sd ?_
   refine b_lt (fun t1=>?_) (fun t1=>?_)
   (exfalso; omega)
   rotate_left
   exact hQ
  ·rw [cN_pos hz,oN_pos hz] at hQ ⊢
   refine sd ?_
   refine b_lt (fun t1=>?_) (fun t1=>?_)
   (exfalso; omega)
   rotate_left
   exact hQ
theorem c29 (t:Tf) (h:t.ok):CallDet Tryz.prog 29 [.d (tfD t)] [tfD t]:=by
 have hla:=tys_len t.t
 have hlb:=seas_len t.s
 have hlc:=sws_len t.b
 have c65_:=c65 t.p h.lp
 have hva:=fun (Q:AExit→St→Prop)=>v29a (N:=71) (t:=t) h.lr h.lt (Q:=Q)
 refine call_of_vc (x:=jr29) (by kernel_rfl) rfl ?_
 rcases Nat.eq_zero_or_pos t.t.length with ha | ha
 ·rw [ha] at hva
  have ea:t.t=[]:=List.eq_nil_of_length_eq_zero ha
  have hvb:=fun (Q:AExit→St→Prop)=>v29b0 (N:=71) (n:=0) (R:=[]) (t:=t) rfl h.ls (Q:=Q)
  rcases Nat.eq_zero_or_pos t.s.length with hb | hb
  ·rw [hb] at hvb
   have eb:t.s=[]:=List.eq_nil_of_length_eq_zero hb
   have hvc:=fun (Q:AExit→St→Prop)=>v29c00 (N:=71) (n:=0) (m:=0) (R:=[]) (S:=[]) (t:=t) rfl rfl h.lb (Q:=Q)
   rcases Nat.eq_zero_or_pos t.b.length with hc | hc
   ·rw [hc] at hvc
    have ec:t.b=[]:=List.eq_nil_of_length_eq_zero hc
    refine ca c65_ ?_
    refine hva _ ?_
    refine hvb _ ?_
    refine hvc _ ?_
    rotate_left
    unfold tfD
    rw [ea]
    rw [eb]
    rw [ec]
    rfl
   ·rw [cN_pos hc,oN_pos hc,List.take_length] at hvc
    refine ca c65_ ?_
    refine hva _ ?_
    refine hvb _ ?_
    refine hvc _ ?_
    refine an ?_ ?_
    assumption
    rotate_left
    unfold tfD
    rw [ea]
    rw [eb]
    rfl
  ·rw [cN_pos hb,oN_pos hb,List.take_length] at hvb
   have hvc:=fun (Q:AExit→St→Prop)=>v29c01 (N:=71) (n:=0) (m:=t.s.length) (R:=[]) (S:=seas t.s) (t:=t) rfl (seas_len t.s) h.lb (Q:=Q)
   rcases Nat.eq_zero_or_pos t.b.length with hc | hc
   ·rw [hc] at hvc
    have ec:t.b=[]:=List.eq_nil_of_length_eq_zero hc
    refine ca c65_ ?_
    refine hva _ ?_
    refine hvb _ ?_
    refine hvc _ ?_
    refine an ?_ ?_
    assumption
    rotate_left
    unfold tfD
    rw [ea]
    rw [ec]
    rfl
   ·rw [cN_pos hc,oN_pos hc,List.take_length] at hvc
    refine ca c65_ ?_
    refine hva _ ?_
    refine hvb _ ?_
    refine hvc _ ?_
    refine an ?_ ?_
    assumption
    refine an ?_ ?_
    assumption
    rotate_left
    unfold tfD
    rw [ea]
    rfl
 ·rw [cN_pos ha,oN_pos ha,List.take_length] at hva
  have hvb:=fun (Q:AExit→St→Prop)=>v29b1 (N:=71) (n:=t.t.length) (R:=tys t.t) (t:=t) (tys_len t.t) h.ls (Q:=Q)
  rcases Nat.eq_zero_or_pos t.s.length with hb | hb
  ·rw [hb] at hvb
   have eb:t.s=[]:=List.eq_nil_of_length_eq_zero hb
   have hvc:=fun (Q:AExit→St→Prop)=>v29c10 (N:=71) (n:=t.t.length) (m:=0) (R:=tys t.t) (S:=[]) (t:=t) (tys_len t.t) rfl h.lb (Q:=Q)
   rcases Nat.eq_zero_or_pos t.b.length with hc | hc
   ·rw [hc] at hvc
    have ec:t.b=[]:=List.eq_nil_of_length_eq_zero hc
    refine ca c65_ ?_
    refine hva _ ?_
    refine hvb _ ?_
    refine hvc _ ?_
    refine an ?_ ?_
    assumption
    rotate_left
    unfold tfD
    rw [eb]
    rw [ec]
    rfl
   ·rw [cN_pos hc,oN_pos hc,List.take_length] at hvc
    refine ca c65_ ?_
    refine hva _ ?_
    refine hvb _ ?_
    refine hvc _ ?_
    refine an ?_ ?_
    assumption
    refine an ?_ ?_
    assumption
    rotate_left
    unfold tfD
    rw [eb]
    rfl
  ·rw [cN_pos hb,oN_pos hb,List.take_length] at hvb
   have hvc:=fun (Q:AExit→St→Prop)=>v29c11 (N:=71) (n:=t.t.length) (m:=t.s.length) (R:=tys t.t) (S:=seas t.s) (t:=t) (tys_len t.t) (seas_len t.s) h.lb (Q:=Q)
   rcases Nat.eq_zero_or_pos t.b.length with hc | hc
   ·rw [hc] at hvc
    have ec:t.b=[]:=List.eq_nil_of_length_eq_zero hc
    refine ca c65_ ?_
    refine hva _ ?_
    refine hvb _ ?_
    refine hvc _ ?_
    refine an ?_ ?_
    assumption
    refine an ?_ ?_
    assumption
    rotate_left
    unfold tfD
    rw [ec]
    rfl
   ·rw [cN_pos hc,oN_pos hc,List.take_length] at hvc
    refine ca c65_ ?_
    refine hva _ ?_
    refine hvb _ ?_
    refine hvc _ ?_
    refine an ?_ ?_
    assumption
    refine an ?_ ?_
    assumption
    refine an ?_ ?_
    assumption
    exact rfl
end Vc
