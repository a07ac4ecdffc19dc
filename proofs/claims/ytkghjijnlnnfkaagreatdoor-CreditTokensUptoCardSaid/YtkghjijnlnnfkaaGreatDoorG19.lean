import Derived.Test.YtkghjijnlnnfkaaGreatDoorG18
set_option linter.unusedSectionVars false
set_option linter.unusedVariables false
set_option linter.unusedSimpArgs false
set_option maxRecDepth 10000
set_option maxHeartbeats 4000000
namespace Vc
open Go Go.Proofs
structure Tk where
 n:Int
 m:Int
 q:Ky
def tkd (t:Tk):Data:=.agg [.int .i64 t.n,.int .i64 t.m,.int .u8 t.q.a,.int .u8 t.q.b,.int .u8 t.q.c,.int .u8 t.q.d,.int .u8 t.q.e,.int .u8 t.q.f,.int .u8 t.q.g,.int .u8 t.q.h]
def tks (l:List Tk):List Data:=l.map tkd
theorem tks_len (l:List Tk):(tks l).length=l.length:=List.length_map _
theorem tks_at {l:List Tk} {k:Nat} {t:Tk} (h:l[k]?=some t):(tks l)[((k:Int)).toNat]?=some (.agg [.int .i64 t.n,.int .i64 t.m,.int .u8 t.q.a,.int .u8 t.q.b,.int .u8 t.q.c,.int .u8 t.q.d,.int .u8 t.q.e,.int .u8 t.q.f,.int .u8 t.q.g,.int .u8 t.q.h]):=by
 show (l.map _)[k]?=_
 rw [List.getElem?_map,h]; rfl
theorem tks_step {l:List Tk} {k:Nat} {t:Tk} (h:l[k]?=some t):tks (l.take (k+1))=tks (l.take k)++[Data.agg [.int .i64 t.n,.int .i64 t.m,.int .u8 t.q.a,.int .u8 t.q.b,.int .u8 t.q.c,.int .u8 t.q.d,.int .u8 t.q.e,.int .u8 t.q.f,.int .u8 t.q.g,.int .u8 t.q.h]]:=by unfold tks; rw [take_one h,List.map_append]; rfl
def ckt (t:Tk):Int:=ckT t.n t.m
def ixs (l:List (Tk × Int)):List Data:=l.map fun x=>.agg [.int .i64 x.1.n,.int .i64 x.1.m,.int .u8 x.1.q.a,.int .u8 x.1.q.b,.int .u8 x.1.q.c,.int .u8 x.1.q.d,.int .u8 x.1.q.e,.int .u8 x.1.q.f,.int .u8 x.1.q.g,.int .u8 x.1.q.h,.int .i64 x.2]
theorem ixs_len (l:List (Tk × Int)):(ixs l).length=l.length:=List.length_map _
theorem ixs_at {l:List (Tk × Int)} {k:Nat} {x:Tk × Int} (h:l[k]?=some x):(ixs l)[((k:Int)).toNat]?=some (.agg [.int .i64 x.1.n,.int .i64 x.1.m,.int .u8 x.1.q.a,.int .u8 x.1.q.b,.int .u8 x.1.q.c,.int .u8 x.1.q.d,.int .u8 x.1.q.e,.int .u8 x.1.q.f,.int .u8 x.1.q.g,.int .u8 x.1.q.h,.int .i64 x.2]):=by
 show (l.map _)[k]?=_
 rw [List.getElem?_map,h]; rfl
def jr30:AFun:=⟨18,3,[.tmp 2],
 (.seq
 (.reg [] [⟨some 2,.mov (.cst (.nils 10)),none⟩])
 (.seq
  (.reg [] [⟨some 3,.mov (.cst (.nils 10)),none⟩])
  (.seq
  (.seq
   (.reg [] [⟨some 6,.mov (.tmp 0),none⟩,
    ⟨some 7,.len (.tmp 6),none⟩,
    ⟨some 8,.mov (.cst (.d (.int .i64 0))),none⟩])
   (.post [3] [0,1,2]
   (.block 0
    (.asrow 2 51 10 3
    (.keep [3,6,7,8] []
     (.loop
     (.post [3,6,7,8] [0,1,2]
      (.seq
      (.reg [] [⟨some 9,.cmp .lss (.tmp 8) (.tmp 7),none⟩])
      (.seq
       (.cond (.tmp 9)
       .skip
       (.exit 0))
       (.seq
       (.block 1
        (.seq
        (.reg [0] [⟨some 10,.ixa 10 (.tmp 6) (.tmp 8),none⟩,
         ⟨some 11,.ld true 10 (.tmp 10),none⟩,
         ⟨some 5,.alloc 0 [(.d (.int .i64 0)),(.d (.int .i64 0)),(.d (.int .u8 0)),(.d (.int .u8 0)),(.d (.int .u8 0)),(.d (.int .u8 0)),(.d (.int .u8 0)),(.d (.int .u8 0)),(.d (.int .u8 0)),(.d (.int .u8 0))],none⟩,
         ⟨none,.st 10 (.tmp 5) (.tmp 11),none⟩])
        (.reg [1,2] [⟨some 12,.mov (.tmp 3),none⟩,
         ⟨some 13,.ld true 10 (.tmp 5),none⟩,
         ⟨some 14,.bsl 1 51 10 1 [(.agg [(.int .i64 0),(.int .i64 0),(.int .u8 0),(.int .u8 0),(.int .u8 0),(.int .u8 0),(.int .u8 0),(.int .u8 0),(.int .u8 0),(.int .u8 0)])] [(0,(.tmp 13))],none⟩,
         ⟨some 15,.app 2 51 10 24 (.tmp 12) (.tmp 14),none⟩,
         ⟨some 3,.mov (.tmp 15),none⟩])))
       (.reg [] [⟨some 16,.arith .add .i64 (.tmp 8) (.cst (.d (.int .i64 1))),none⟩,
        ⟨some 8,.mov (.tmp 16),none⟩])))))))))))
  (.seq
   (.reg [] [⟨some 17,.mov (.tmp 3),none⟩,
    ⟨some 2,.mov (.tmp 17),none⟩])
   .ret))))⟩
def jr101:AFun:=⟨22,3,[.tmp 4],
 (.seq
 (.reg [] [⟨some 4,.mov (.cst (.nils 1)),none⟩])
 (.seq
  (.reg [] [⟨some 5,.mov (.cst (.nils 1)),none⟩])
  (.seq
  (.seq
   (.reg [] [⟨some 8,.mov (.tmp 0),none⟩,
    ⟨some 9,.len (.tmp 8),none⟩,
    ⟨some 10,.mov (.cst (.d (.int .i64 0))),none⟩])
   (.post [5] [0,1,2]
   (.block 0
    (.asrow 2 30 1 5
    (.keep [1,5,8,9,10] []
     (.loop
     (.post [1,5,8,9,10] [0,1,2]
      (.seq
      (.reg [] [⟨some 11,.cmp .lss (.tmp 10) (.tmp 9),none⟩])
      (.seq
       (.cond (.tmp 11)
       .skip
       (.exit 0))
       (.seq
       (.block 1
        (.seq
        (.reg [0] [⟨some 12,.ixa 10 (.tmp 8) (.tmp 10),none⟩,
         ⟨some 13,.ld true 10 (.tmp 12),none⟩,
         ⟨some 7,.alloc 0 [(.d (.int .i64 0)),(.d (.int .i64 0)),(.d (.int .u8 0)),(.d (.int .u8 0)),(.d (.int .u8 0)),(.d (.int .u8 0)),(.d (.int .u8 0)),(.d (.int .u8 0)),(.d (.int .u8 0)),(.d (.int .u8 0))],none⟩,
         ⟨none,.st 10 (.tmp 7) (.tmp 13),none⟩])
        (.reg [1,2] [⟨some 14,.mov (.tmp 5),none⟩,
         ⟨some 15,.mov (.tmp 1),none⟩,
         ⟨some 16,.ld true 10 (.tmp 7),none⟩,
         ⟨some 17,.callv (.tmp 15) [(.tmp 16)],none⟩,
         ⟨some 18,.bsl 1 30 1 1 [(.int .i64 0)] [(0,(.tmp 17))],none⟩,
         ⟨some 19,.app 2 30 1 8 (.tmp 14) (.tmp 18),none⟩,
         ⟨some 5,.mov (.tmp 19),none⟩])))
       (.reg [] [⟨some 20,.arith .add .i64 (.tmp 10) (.cst (.d (.int .i64 1))),none⟩,
        ⟨some 10,.mov (.tmp 20),none⟩])))))))))))
  (.seq
   (.reg [] [⟨some 21,.mov (.tmp 5),none⟩,
    ⟨some 4,.mov (.tmp 21),none⟩])
   .ret))))⟩
def jr32:AFun:=⟨22,0,[.tmp 2],
 (.seq
 (.reg [] [⟨some 2,.mov (.cst (.d (.int .i64 0))),none⟩])
 (.seq
  (.seq
  (.reg [] [⟨some 5,.mov (.tmp 0),none⟩,
   ⟨some 6,.len (.tmp 5),none⟩,
   ⟨some 7,.cmp .gtr (.tmp 6) (.cst (.d (.int .i64 256))),none⟩])
  (.cond (.tmp 7)
   (.seq
   (.reg [] [⟨some 2,.mov (.cst (.d (.int .i64 5))),none⟩])
   .ret)
   .skip))
  (.seq
  (.seq
   (.reg [] [⟨some 3,.mov (.cst (.d (.int .i64 0))),none⟩])
   (.post [] []
   (.block 0
    (.keep [0,3] []
    (.loop
     (.post [0,3] []
     (.seq
      (.seq
      (.reg [] [⟨some 8,.mov (.tmp 3),none⟩,
       ⟨some 9,.mov (.tmp 0),none⟩,
       ⟨some 10,.len (.tmp 9),none⟩,
       ⟨some 11,.cmp .lss (.tmp 8) (.tmp 10),none⟩])
      (.cond (.tmp 11)
       .skip
       (.exit 0)))
      (.seq
      (.block 1
       (.seq
       (.reg [] [⟨some 14,.mov (.tmp 0),none⟩,
        ⟨some 15,.mov (.tmp 3),none⟩,
        ⟨some 16,.ixa 10 (.tmp 14) (.tmp 15),none⟩,
        ⟨some 17,.ld true 10 (.tmp 16),none⟩,
        ⟨some 18,.call 31 [(.tmp 17)],none⟩,
        ⟨some 4,.mov (.tmp 18),none⟩])
       (.seq
        (.reg [] [⟨some 19,.mov (.tmp 4),none⟩,
         ⟨some 20,.cmp .neq (.tmp 19) (.cst (.d (.int .i64 0))),none⟩])
        (.cond (.tmp 20)
        (.seq
         (.reg [] [⟨some 21,.mov (.tmp 4),none⟩,
          ⟨some 2,.mov (.tmp 21),none⟩])
         .ret)
        .skip))))
      (.reg [] [⟨some 12,.mov (.tmp 3),none⟩,
       ⟨some 13,.arith .add .i64 (.tmp 12) (.cst (.d (.int .i64 1))),none⟩,
       ⟨some 3,.mov (.tmp 13),none⟩])))))))))
  (.seq
   (.reg [] [⟨some 2,.mov (.cst (.d (.int .i64 0))),none⟩])
   .ret))))⟩
def jr102:AFun:=⟨22,3,[.tmp 4],
 (.seq
 (.reg [] [⟨some 4,.mov (.cst (.nils 1)),none⟩])
 (.seq
  (.reg [] [⟨some 5,.mov (.cst (.nils 1)),none⟩])
  (.seq
  (.seq
   (.reg [] [⟨some 8,.mov (.tmp 0),none⟩,
    ⟨some 9,.len (.tmp 8),none⟩,
    ⟨some 10,.mov (.cst (.d (.int .i64 0))),none⟩])
   (.post [5] [0,1,2]
   (.block 0
    (.asrow 2 3 1 5
    (.keep [1,5,8,9,10] []
     (.loop
     (.post [1,5,8,9,10] [0,1,2]
      (.seq
      (.reg [] [⟨some 11,.cmp .lss (.tmp 10) (.tmp 9),none⟩])
      (.seq
       (.cond (.tmp 11)
       .skip
       (.exit 0))
       (.seq
       (.block 1
        (.seq
        (.reg [0] [⟨some 12,.ixa 11 (.tmp 8) (.tmp 10),none⟩,
         ⟨some 13,.ld true 11 (.tmp 12),none⟩,
         ⟨some 7,.alloc 0 [(.d (.int .i64 0)),(.d (.int .i64 0)),(.d (.int .u8 0)),(.d (.int .u8 0)),(.d (.int .u8 0)),(.d (.int .u8 0)),(.d (.int .u8 0)),(.d (.int .u8 0)),(.d (.int .u8 0)),(.d (.int .u8 0)),(.d (.int .i64 0))],none⟩,
         ⟨none,.st 11 (.tmp 7) (.tmp 13),none⟩])
        (.reg [1,2] [⟨some 14,.mov (.tmp 5),none⟩,
         ⟨some 15,.mov (.tmp 1),none⟩,
         ⟨some 16,.ld true 11 (.tmp 7),none⟩,
         ⟨some 17,.callv (.tmp 15) [(.tmp 16)],none⟩,
         ⟨some 18,.bsl 1 3 1 1 [(.int .i64 0)] [(0,(.tmp 17))],none⟩,
         ⟨some 19,.app 2 3 1 8 (.tmp 14) (.tmp 18),none⟩,
         ⟨some 5,.mov (.tmp 19),none⟩])))
       (.reg [] [⟨some 20,.arith .add .i64 (.tmp 10) (.cst (.d (.int .i64 1))),none⟩,
        ⟨some 10,.mov (.tmp 20),none⟩])))))))))))
  (.seq
   (.reg [] [⟨some 21,.mov (.tmp 5),none⟩,
    ⟨some 4,.mov (.tmp 21),none⟩])
   .ret))))⟩
def jr103:AFun:=⟨5,1,[.tmp 2],
 (.seq
 (.reg [0] [⟨some 1,.cbx 0 11 (.tmp 0),none⟩,
  ⟨some 2,.mov (.cst (.d (.int .i64 0))),none⟩])
 (.seq
  (.reg [] [⟨some 3,.fad 10 (.tmp 1),none⟩,
   ⟨some 4,.ld false 1 (.tmp 3),none⟩,
   ⟨some 2,.mov (.tmp 4),none⟩])
  .ret))⟩
theorem c99x (t:Tk):CallDet Tryz.prog 99 [.d (.agg [.int .i64 t.n,.int .i64 t.m,.int .u8 t.q.a,.int .u8 t.q.b,.int .u8 t.q.c,.int .u8 t.q.d,.int .u8 t.q.e,.int .u8 t.q.f,.int .u8 t.q.g,.int .u8 t.q.h])] [.int .i64 (ckt t)]:=c99 t.n t.m t.q
theorem c103 (x:Tk × Int):CallDet Tryz.prog 103 [.d (.agg [.int .i64 x.1.n,.int .i64 x.1.m,.int .u8 x.1.q.a,.int .u8 x.1.q.b,.int .u8 x.1.q.c,.int .u8 x.1.q.d,.int .u8 x.1.q.e,.int .u8 x.1.q.f,.int .u8 x.1.q.g,.int .u8 x.1.q.h,.int .i64 x.2])] [.int .i64 x.2]:=by
 refine call_of_vc (x:=jr103) (by kernel_rfl) rfl ?_
 exact rfl
theorem c30 (l:List Tk) (hl:l.length≤1000000):CallDet Tryz.prog 30 [.d (.slice 10 (tks l))] [.slice 10 (tks l)]:=by
 have hll:=tks_len l
 refine call_of_vc (x:=jr30) (by kernel_rfl) rfl ?_
 refine loop_st (fun k:Nat=>⟨[(3,.sl 2 (tks (l.take k)).length),(6,.d (.slice 10 (tks l))),(7,.d (.int .i64 (((tks l).length:Nat):Int))),(8,.d (.int .i64 ((k:Nat))))],[.none,.none,.row 51 10 (tks (l.take k)) false]⟩) (fun k=>k≤l.length) (fun k=>l.length - k) 0 rfl (Nat.zero_le _) ?_
 intro k hk
 have hk:k≤l.length:=hk
 have hlk:(tks (l.take k)).length=min k l.length:=by rw [tks_len,List.length_take]
 dsimp only
 by_cases hkn:k < l.length
 ·refine Exists.elim (get_lt l hkn) fun x hx=>?_
  have hx1:=tks_at hx
  have fin:∃ a':Nat,(a'≤l.length∧l.length - a' < l.length - k)∧(⟨[(3,.sl 2 (tks (l.take k)++[Data.agg [.int .i64 x.n,.int .i64 x.m,.int .u8 x.q.a,.int .u8 x.q.b,.int .u8 x.q.c,.int .u8 x.q.d,.int .u8 x.q.e,.int .u8 x.q.f,.int .u8 x.q.g,.int .u8 x.q.h]]).length),(6,.d (.slice 10 (tks l))),(7,.d (.int .i64 (((tks l).length:Nat):Int))),(8,.d (.int .i64 ((k:Int)+1)))],[.none,.none,.row 51 10 (tks (l.take k)++[Data.agg [.int .i64 x.n,.int .i64 x.m,.int .u8 x.q.a,.int .u8 x.q.b,.int .u8 x.q.c,.int .u8 x.q.d,.int .u8 x.q.e,.int .u8 x.q.f,.int .u8 x.q.g,.int .u8 x.q.h]]) false]⟩:St)=⟨[(3,.sl 2 (tks (l.take a')).length),(6,.d (.slice 10 (tks l))),(7,.d (.int .i64 (((tks l).length:Nat):Int))),(8,.d (.int .i64 ((a':Nat))))],[.none,.none,.row 51 10 (tks (l.take a')) false]⟩:=⟨k+1,⟨by omega,by omega⟩,by rw [tks_step hx]; rfl⟩
  refine sd ?_
  refine b_lt (fun t1=>?_) (fun t1=>?_)
  refine ix_at hx1 ?_ ?_
  (show (0:Int)≤(↑k:Int); omega)
  refine sd ?_
  refine sd ?_
  refine sd ?_
  refine an ?_ ?_
  refine an ?_ ?_
  exact rfl
  refine an ?_ ?_
  exact rfl
  refine an ?_ ?_
  exact rfl
  refine an ?_ ?_
  (show (List.length (tks (List.take k l))+(1:Nat)) * (24:Nat)≤(2:Nat) ^ (47:Nat); omega)
  (show List.length (tks (List.take k l))+(1:Nat)≤(2:Nat) ^ (47:Nat); omega)
  refine ar_add ?_ ?_
  refine an ?_ ?_
  (show (-9223372036854775808:Int)≤(↑k:Int)+(1:Int); omega)
  (show (↑k:Int)+(1:Int)≤(9223372036854775807:Int); omega)
  rotate_left
  (exfalso; omega)
  all_goals exact fin
 ·have e:l.take k=l:=List.take_of_length_le (by omega)
  rw [e]
  refine sd ?_
  refine b_lt (fun t1=>?_) (fun t1=>?_)
  (exfalso; omega)
  refine sd ?_
  exact rfl
theorem c101 (l:List Tk) (hl:l.length≤1000000):CallDet Tryz.prog 101 [.d (.slice 10 (tks l)),.d (.fn (.func 99) [])] [.slice 1 (ints (l.map ckt))]:=by
 have hll:=tks_len l
 refine call_of_vc (x:=jr101) (by kernel_rfl) rfl ?_
 refine loop_st (fun k:Nat=>⟨[(1,.d (.fn (.func 99) [])),(5,.sl 2 (ints ((l.take k).map ckt)).length),(8,.d (.slice 10 (tks l))),(9,.d (.int .i64 (((tks l).length:Nat):Int))),(10,.d (.int .i64 ((k:Nat))))],[.none,.none,.row 30 1 (ints ((l.take k).map ckt)) false]⟩) (fun k=>k≤l.length) (fun k=>l.length - k) 0 rfl (Nat.zero_le _) ?_
 intro k hk
 have hk:k≤l.length:=hk
 have hlk:(ints ((l.take k).map ckt)).length=min k l.length:=by unfold ints; rw [List.length_map,List.length_map,List.length_take]
 dsimp only
 by_cases hkn:k < l.length
 ·refine Exists.elim (get_lt l hkn) fun x hx=>?_
  have hx1:=tks_at hx
  have c99_:=c99x x
  have fin:∃ a':Nat,(a'≤l.length∧l.length - a' < l.length - k)∧(⟨[(1,.d (.fn (.func 99) [])),(5,.sl 2 (ints ((l.take k).map ckt)++[Data.int .i64 (ckt x)]).length),(8,.d (.slice 10 (tks l))),(9,.d (.int .i64 (((tks l).length:Nat):Int))),(10,.d (.int .i64 ((k:Int)+1)))],[.none,.none,.row 30 1 (ints ((l.take k).map ckt)++[Data.int .i64 (ckt x)]) false]⟩:St)=⟨[(1,.d (.fn (.func 99) [])),(5,.sl 2 (ints ((l.take a').map ckt)).length),(8,.d (.slice 10 (tks l))),(9,.d (.int .i64 (((tks l).length:Nat):Int))),(10,.d (.int .i64 ((a':Nat))))],[.none,.none,.row 30 1 (ints ((l.take a').map ckt)) false]⟩:=⟨k+1,⟨by omega,by omega⟩,by rw [take_map_succ ckt hx]; unfold ints; rw [List.map_append]; rfl⟩
  refine sd ?_
  refine b_lt (fun t1=>?_) (fun t1=>?_)
  refine ix_at hx1 ?_ ?_
  (show (0:Int)≤(↑k:Int); omega)
  refine ca c99_ ?_
  refine sd ?_
  refine sd ?_
  refine sd ?_
  refine an ?_ ?_
  refine an ?_ ?_
  exact rfl
  refine an ?_ ?_
  exact rfl
  refine an ?_ ?_
  exact rfl
  refine an ?_ ?_
  (show (List.length (ints (List.map ckt (List.take k l)))+(1:Nat)) * (8:Nat)≤(2:Nat) ^ (47:Nat); omega)
  (show List.length (ints (List.map ckt (List.take k l)))+(1:Nat)≤(2:Nat) ^ (47:Nat); omega)
  refine ar_add ?_ ?_
  refine an ?_ ?_
  (show (-9223372036854775808:Int)≤(↑k:Int)+(1:Int); omega)
  (show (↑k:Int)+(1:Int)≤(9223372036854775807:Int); omega)
  rotate_left
  (exfalso; omega)
  all_goals exact fin
 ·have e:l.take k=l:=List.take_of_length_le (by omega)
  rw [e]
  refine sd ?_
  refine b_lt (fun t1=>?_) (fun t1=>?_)
  (exfalso; omega)
  refine sd ?_
  exact rfl
theorem c102 (l:List (Tk × Int)) (hl:l.length≤1000000):CallDet Tryz.prog 102 [.d (.slice 11 (ixs l)),.d (.fn (.func 103) [])] [.slice 1 (ints (l.map Prod.snd))]:=by
 have hll:=ixs_len l
 refine call_of_vc (x:=jr102) (by kernel_rfl) rfl ?_
 refine loop_st (fun k:Nat=>⟨[(1,.d (.fn (.func 103) [])),(5,.sl 2 (ints ((l.take k).map Prod.snd)).length),(8,.d (.slice 11 (ixs l))),(9,.d (.int .i64 (((ixs l).length:Nat):Int))),(10,.d (.int .i64 ((k:Nat))))],[.none,.none,.row 3 1 (ints ((l.take k).map Prod.snd)) false]⟩) (fun k=>k≤l.length) (fun k=>l.length - k) 0 rfl (Nat.zero_le _) ?_
 intro k hk
 have hk:k≤l.length:=hk
 have hlk:(ints ((l.take k).map Prod.snd)).length=min k l.length:=by unfold ints; rw [List.length_map,List.length_map,List.length_take]
 dsimp only
 by_cases hkn:k < l.length
 ·refine Exists.elim (get_lt l hkn) fun x hx=>?_
  have hx1:=ixs_at hx
  have c103_:=c103 x
  have fin:∃ a':Nat,(a'≤l.length∧l.length - a' < l.length - k)∧(⟨[(1,.d (.fn (.func 103) [])),(5,.sl 2 (ints ((l.take k).map Prod.snd)++[Data.int .i64 x.2]).length),(8,.d (.slice 11 (ixs l))),(9,.d (.int .i64 (((ixs l).length:Nat):Int))),(10,.d (.int .i64 ((k:Int)+1)))],[.none,.none,.row 3 1 (ints ((l.take k).map Prod.snd)++[Data.int .i64 x.2]) false]⟩:St)=⟨[(1,.d (.fn (.func 103) [])),(5,.sl 2 (ints ((l.take a').map Prod.snd)).length),(8,.d (.slice 11 (ixs l))),(9,.d (.int .i64 (((ixs l).length:Nat):Int))),(10,.d (.int .i64 ((a':Nat))))],[.none,.none,.row 3 1 (ints ((l.take a').map Prod.snd)) false]⟩:=⟨k+1,⟨by omega,by omega⟩,by rw [take_map_succ Prod.snd hx]; unfold ints; rw [List.map_append]; rfl⟩
  refine sd ?_
  refine b_lt (fun t1=>?_) (fun t1=>?_)
  refine ix_at hx1 ?_ ?_
  (show (0:Int)≤(↑k:Int); omega)
  refine ca c103_ ?_
  refine sd ?_
  refine sd ?_
  refine sd ?_
  refine an ?_ ?_
  refine an ?_ ?_
  exact rfl
  refine an ?_ ?_
  exact rfl
  refine an ?_ ?_
  exact rfl
  refine an ?_ ?_
  (show (List.length (ints (List.map Prod.snd (List.take k l)))+(1:Nat)) * (8:Nat)≤(2:Nat) ^ (47:Nat); omega)
  (show List.length (ints (List.map Prod.snd (List.take k l)))+(1:Nat)≤(2:Nat) ^ (47:Nat); omega)
  refine ar_add ?_ ?_
  refine an ?_ ?_
  (show (-9223372036854775808:Int)≤(↑k:Int)+(1:Int); omega)
  (show (↑k:Int)+(1:Int)≤(9223372036854775807:Int); omega)
  rotate_left
  (exfalso; omega)
  all_goals exact fin
 ·have e:l.take k=l:=List.take_of_length_le (by omega)
  rw [e]
  refine sd ?_
  refine b_lt (fun t1=>?_) (fun t1=>?_)
  (exfalso; omega)
  refine sd ?_
  exact rfl
def tksE (l:List Tk):Int:=bif decide ((256:Int) < (((tks l).length:Nat):Int)) then 5 else firstOf (l.map ckt)
theorem c32 (l:List Tk) (hl:l.length≤1000000):CallDet Tryz.prog 32 [.d (.slice 10 (tks l))] [.int .i64 (tksE l)]:=by
 have hll:=tks_len l
 have p1:(256:Int) < (((tks l).length:Nat):Int)→tksE l=5:=fun h=>by unfold tksE; rw [decide_eq_true h]; rfl
 have p2:¬ (256:Int) < (((tks l).length:Nat):Int)→tksE l=firstOf (l.map ckt):=fun h=>by unfold tksE; rw [decide_eq_false h]; rfl
 refine call_of_vc (x:=jr32) (by kernel_rfl) rfl ?_
 refine sd ?_
 refine b_lt (fun t1=>?_) (fun t1=>?_)
 rotate_left
 rotate_left
 ·exact resC (p1 t1)
 rw [p2 t1]
 refine loop_st (fun k:Nat=>⟨[(0,.d (.slice 10 (tks l))),(3,.d (.int .i64 ((k:Nat))))],[]⟩) (fun k=>k≤l.length∧firstOf (l.map ckt)=firstOf ((l.drop k).map ckt)) (fun k=>l.length - k) 0 rfl ⟨Nat.zero_le _,rfl⟩ ?_
 rintro k ⟨hk,hi⟩
 have hk:k≤l.length:=hk
 dsimp only
 by_cases hkn:k < l.length
 ·refine Exists.elim (get_lt l hkn) fun x hx=>?_
  have hx1:=tks_at hx
  have c31_:CallDet Tryz.prog 31 [.d (.agg [.int .i64 x.n,.int .i64 x.m,.int .u8 x.q.a,.int .u8 x.q.b,.int .u8 x.q.c,.int .u8 x.q.d,.int .u8 x.q.e,.int .u8 x.q.f,.int .u8 x.q.g,.int .u8 x.q.h])] [.int .i64 (ckt x)]:=c31 x.n x.m x.q
  rw [drop_at hx,List.map_cons] at hi
  by_cases h0:ckt x=0
  ·rw [h0,fo_z] at hi
   rw [h0] at c31_
   have fin:∃ a':Nat,((a'≤l.length∧firstOf (l.map ckt)=firstOf ((l.drop a').map ckt))∧l.length - a' < l.length - k)∧(⟨[(0,.d (.slice 10 (tks l))),(3,.d (.int .i64 ((k:Int)+1)))],[]⟩:St)=⟨[(0,.d (.slice 10 (tks l))),(3,.d (.int .i64 ((a':Nat))))],[]⟩:=⟨k+1,⟨⟨by omega,hi⟩,by omega⟩,rfl⟩
   refine sd ?_
   refine b_lt (fun t2=>?_) (fun t2=>?_)
   refine ix_at hx1 ?_ ?_
   (show (0:Int)≤(↑k:Int); omega)
   refine ca c31_ ?_
   refine sd ?_
   refine ar_add ?_ ?_
   refine an ?_ ?_
   (show (-9223372036854775808:Int)≤(↑k:Int)+(1:Int); omega)
   (show (↑k:Int)+(1:Int)≤(9223372036854775807:Int); omega)
   rotate_left
   (exfalso; omega)
   all_goals exact fin
  ·rw [fo_nz h0] at hi
   rw [hi]
   refine sd ?_
   refine b_lt (fun t2=>?_) (fun t2=>?_)
   refine ix_at hx1 ?_ ?_
   (show (0:Int)≤(↑k:Int); omega)
   refine ca c31_ ?_
   refine sd ?_
   refine b_ne (fun t3=>?_) (fun t3=>?_)
   exact rfl
   (exfalso; omega)
   (exfalso; omega)
 ·rw [List.drop_eq_nil_of_le (by omega)] at hi
  have hi:firstOf (l.map ckt)=0:=hi
  rw [hi]
  refine sd ?_
  refine b_lt (fun t2=>?_) (fun t2=>?_)
  (exfalso; omega)
  exact rfl
def crO (a:Ac) (n m:Int):Ac:=⟨a.b+(m - pay a m),a.d - pay a m,a.s,a.e,a.k,a.n,a.c,insI n a.u⟩
theorem crE_ref {a:Ac} {c:Bool} {n m:Int} {q:Ky} (hA:ckA a c=0):firstOf [bif !(va a c n m q) then 27 else 0,bif a.u.contains n then 9 else 0,bif decide (256≤(((ints a.u).length:Nat):Int)) then 5 else 0,bif decide (1000000000000 - (m - pay a m) < a.b) then 4 else 0]=crE a c n m q:=by
 have hlen:(ints a.u).length=a.u.length:=List.length_map _
 have hl:=ckA_len hA
 unfold crE
 cases va a c n m q with
 | false=>rfl
 | true =>
  show firstOf ((0:Int)::_)=crR a n m
  rw [fo_z]
  unfold crR
  rw [show (((((ints a.u).length:Nat):Int)==256):Bool)=decide (256≤(((ints a.u).length:Nat):Int)) by
   rw [hlen]
   by_cases h:a.u.length=256
   ·rw [h]; rfl
   ·rw [beq_eq_false_iff_ne.2 (by omega),decide_eq_false (by omega)]]
theorem c28 (a:Ac) (c:Bool) (n m:Int) (q:Ky) (hl:a.u.length≤1048576) (hk:a.k.ok) (hn:a.n.ok):CallDet Tryz.prog 28 [.d (.agg [.int .i64 (a.b),.int .i64 (a.d),.int .i64 a.s,.int .i64 a.e,.int .u8 a.k.a,.int .u8 a.k.b,.int .u8 a.k.c,.int .u8 a.k.d,.int .u8 a.k.e,.int .u8 a.k.f,.int .u8 a.k.g,.int .u8 a.k.h,.int .u8 a.n.a,.int .u8 a.n.b,.int .u8 a.n.c,.int .u8 a.n.d,.int .u8 a.n.e,.int .u8 a.n.f,.int .u8 a.n.g,.int .u8 a.n.h,.bool c,.slice 1 (ints a.u)]),.d (.agg [.int .i64 n,.int .i64 m,.int .u8 q.a,.int .u8 q.b,.int .u8 q.c,.int .u8 q.d,.int .u8 q.e,.int .u8 q.f,.int .u8 q.g,.int .u8 q.h])] (bif firstOf [ckA a c,ckT n m] != 0 then [.agg [.int .i64 0,.int .i64 0,.int .i64 0,.int .i64 0,.int .u8 0,.int .u8 0,.int .u8 0,.int .u8 0,.int .u8 0,.int .u8 0,.int .u8 0,.int .u8 0,.int .u8 0,.int .u8 0,.int .u8 0,.int .u8 0,.int .u8 0,.int .u8 0,.int .u8 0,.int .u8 0,.bool false,.slice 1 []],.int .i64 (firstOf [ckA a c,ckT n m])] else bif crE a c n m q != 0 then [.agg [.int .i64 0,.int .i64 0,.int .i64 0,.int .i64 0,.int .u8 0,.int .u8 0,.int .u8 0,.int .u8 0,.int .u8 0,.int .u8 0,.int .u8 0,.int .u8 0,.int .u8 0,.int .u8 0,.int .u8 0,.int .u8 0,.int .u8 0,.int .u8 0,.int .u8 0,.int .u8 0,.bool false,.slice 1 []],.int .i64 (crE a c n m q)] else [.agg [.int .i64 (a.b+(m - pay a m)),.int .i64 (a.d - pay a m),.int .i64 a.s,.int .i64 a.e,.int .u8 a.k.a,.int .u8 a.k.b,.int .u8 a.k.c,.int .u8 a.k.d,.int .u8 a.k.e,.int .u8 a.k.f,.int .u8 a.k.g,.int .u8 a.k.h,.int .u8 a.n.a,.int .u8 a.n.b,.int .u8 a.n.c,.int .u8 a.n.d,.int .u8 a.n.e,.int .u8 a.n.f,.int .u8 a.n.g,.int .u8 a.n.h,.bool c,.slice 1 (ints (insI n a.u))],.int .i64 0]):=by
 have c25_:=c25 a c hl
 have c99_:=c99 n m q
 have c90_:CallDet Tryz.prog 90 [.d (.slice 1 [.int .i64 (ckA a c),.int .i64 (ckT n m)])] [.int .i64 (firstOf [ckA a c,ckT n m])]:=c90 [ckA a c,ckT n m] (by simp)
 by_cases h:firstOf [ckA a c,ckT n m]=0
 ·have hA:=firstOf_zero h (ckA a c) (by simp)
  have hT:=firstOf_zero h (ckT n m) (by simp)
  have c100_:=c100 a c n m q hk hn hA hT
  rw [h] at c90_ ⊢
  by_cases h2:crE a c n m q=0
  ·rw [h2] at c100_ ⊢
   refine call_of_vc (x:=jr28) (by kernel_rfl) rfl ?_
   refine ca c25_ ?_
   refine ca c99_ ?_
   refine sd ?_
   refine sd ?_
   refine ca c90_ ?_
   refine sd ?_
   refine ca c100_ ?_
   refine sd ?_
   exact rfl
  ·rw [bne_t h2] at c100_ ⊢
   refine call_of_vc (x:=jr28) (by kernel_rfl) rfl ?_
   refine ca c25_ ?_
   refine ca c99_ ?_
   refine sd ?_
   refine sd ?_
   refine ca c90_ ?_
   refine sd ?_
   refine ca c100_ ?_
   refine sd ?_
   refine b_ne (fun t1=>?_) (fun t1=>?_)
   exact rfl
   (exfalso; omega)
 ·rw [bne_t h]
  refine call_of_vc (x:=jr28) (by kernel_rfl) rfl ?_
  refine ca c25_ ?_
  refine ca c99_ ?_
  refine sd ?_
  refine sd ?_
  refine ca c90_ ?_
  refine sd ?_
  refine b_ne (fun t1=>?_) (fun t1=>?_)
  exact rfl
  (exfalso; omega)
theorem c33 (a:Ac) (c:Bool) (n m:Int) (q:Ky) (hk:a.k.ok) (hn:a.n.ok) (hA:ckA a c=0) (ht:ckT n m=0):CallDet Tryz.prog 33 [.d (.agg [.int .i64 (a.b),.int .i64 (a.d),.int .i64 a.s,.int .i64 a.e,.int .u8 a.k.a,.int .u8 a.k.b,.int .u8 a.k.c,.int .u8 a.k.d,.int .u8 a.k.e,.int .u8 a.k.f,.int .u8 a.k.g,.int .u8 a.k.h,.int .u8 a.n.a,.int .u8 a.n.b,.int .u8 a.n.c,.int .u8 a.n.d,.int .u8 a.n.e,.int .u8 a.n.f,.int .u8 a.n.g,.int .u8 a.n.h,.bool c,.slice 1 (ints a.u)]),.d (.agg [.int .i64 n,.int .i64 m,.int .u8 q.a,.int .u8 q.b,.int .u8 q.c,.int .u8 q.d,.int .u8 q.e,.int .u8 q.f,.int .u8 q.g,.int .u8 q.h])] (bif crE a c n m q != 0 then [.agg [.int .i64 0,.int .i64 0,.int .i64 0,.int .i64 0,.int .u8 0,.int .u8 0,.int .u8 0,.int .u8 0,.int .u8 0,.int .u8 0,.int .u8 0,.int .u8 0,.int .u8 0,.int .u8 0,.int .u8 0,.int .u8 0,.int .u8 0,.int .u8 0,.int .u8 0,.int .u8 0,.bool false,.slice 1 []],.int .i64 (crE a c n m q)] else [.agg [.int .i64 (a.b+(m - pay a m)),.int .i64 (a.d - pay a m),.int .i64 a.s,.int .i64 a.e,.int .u8 a.k.a,.int .u8 a.k.b,.int .u8 a.k.c,.int .u8 a.k.d,.int .u8 a.k.e,.int .u8 a.k.f,.int .u8 a.k.g,.int .u8 a.k.h,.int .u8 a.n.a,.int .u8 a.n.b,.int .u8 a.n.c,.int .u8 a.n.d,.int .u8 a.n.e,.int .u8 a.n.f,.int .u8 a.n.g,.int .u8 a.n.h,.bool c,.slice 1 (ints (insI n a.u))],.int .i64 0]):=by
 obtain ⟨ht1,ht2⟩:=ckT_b ht
 have hlA:=ckA_len hA
 have hb:=(ckA_b hA).1
 obtain ⟨hd,hs0,hs1⟩:=ckA_ds hA
 obtain ⟨hp0,hp1,hp2,hp3,_⟩:=pay_b hA ht2.1 ht2.2
 have hlen:(ints a.u).length=a.u.length:=List.length_map _
 have c105_:=c105 a c n m q hk hn ht
 have c66_:=c66 a.u n (by omega)
 have c94_:=c94 a c (by omega)
 by_cases hp:a.d < m * a.s / 100
 ·have ep:pay a m=a.d:=by unfold pay; omega
  rw [ep] at hp1 hp2 hp3
  have c96_:CallDet Tryz.prog 96 [.d (.slice 1 [.int .i64 (bif !(va a c n m q) then 27 else 0),.int .i64 (bif a.u.contains n then 9 else 0),.int .i64 (bif decide (256≤(((ints a.u).length:Nat):Int)) then 5 else 0),.int .i64 (bif decide (1000000000000 - (m - a.d) < a.b) then 4 else 0)])] [.int .i64 (crE a c n m q)]:=by
   rw [← crE_ref hA,ep]; exact c96 [bif !(va a c n m q) then 27 else 0,bif a.u.contains n then 9 else 0,bif decide (256≤(((ints a.u).length:Nat):Int)) then 5 else 0,bif decide (1000000000000 - (m - a.d) < a.b) then 4 else 0] (by simp)
  by_cases h:crE a c n m q=0
  ·rw [h] at c96_ ⊢
   have eb:a.b+m - a.d=a.b+(m - a.d):=by omega
   have fin:resV [.agg [.int .i64 (a.b+m - a.d),.int .i64 (a.d - a.d),.int .i64 a.s,.int .i64 a.e,.int .u8 a.k.a,.int .u8 a.k.b,.int .u8 a.k.c,.int .u8 a.k.d,.int .u8 a.k.e,.int .u8 a.k.f,.int .u8 a.k.g,.int .u8 a.k.h,.int .u8 a.n.a,.int .u8 a.n.b,.int .u8 a.n.c,.int .u8 a.n.d,.int .u8 a.n.e,.int .u8 a.n.f,.int .u8 a.n.g,.int .u8 a.n.h,.bool c,.slice 1 (ints (insI n a.u))],.int .i64 0]=resV [.agg [.int .i64 (a.b+(m - pay a m)),.int .i64 (a.d - pay a m),.int .i64 a.s,.int .i64 a.e,.int .u8 a.k.a,.int .u8 a.k.b,.int .u8 a.k.c,.int .u8 a.k.d,.int .u8 a.k.e,.int .u8 a.k.f,.int .u8 a.k.g,.int .u8 a.k.h,.int .u8 a.n.a,.int .u8 a.n.b,.int .u8 a.n.c,.int .u8 a.n.d,.int .u8 a.n.e,.int .u8 a.n.f,.int .u8 a.n.g,.int .u8 a.n.h,.bool c,.slice 1 (ints (insI n a.u))],.int .i64 0]:=by rw [ep,eb]
   refine call_of_vc (x:=jr33) (by kernel_rfl) rfl ?_
   refine ar_mul ?_ ?_
   refine an ?_ ?_
   (show (-9223372036854775808:Int)≤m * Ac.s a; omega)
   (show m * Ac.s a≤(9223372036854775807:Int); omega)
   refine ar_quo ?_ ?_
   refine an ?_ ?_
   (show (0:Int)≤m * Ac.s a; omega)
   refine an ?_ ?_
   (show m * Ac.s a≤(9223372036854775807:Int); omega)
   (show (1:Int)≤(100:Int); omega)
   refine sd ?_
   refine b_lt (fun t1=>?_) (fun t1=>?_)
   refine ca c105_ ?_
   refine ca (c97 _ _) ?_
   refine ca c66_ ?_
   refine ca (c97 _ _) ?_
   refine sd ?_
   refine ca (c97 _ _) ?_
   refine ar_sub ?_ ?_
   refine an ?_ ?_
   (show (-9223372036854775808:Int)≤m - Ac.d a; omega)
   (show m - Ac.d a≤(9223372036854775807:Int); omega)
   refine ar_sub ?_ ?_
   refine an ?_ ?_
   (show (-9223372036854775808:Int)≤(1000000000000:Int) - (m - Ac.d a); omega)
   (show (1000000000000:Int) - (m - Ac.d a)≤(9223372036854775807:Int); omega)
   refine sd ?_
   refine ca (c97 _ _) ?_
   refine sd ?_
   refine sd ?_
   refine ca c96_ ?_
   refine sd ?_
   refine ca c94_ ?_
   refine ar_sub ?_ ?_
   refine an ?_ ?_
   (show (-9223372036854775808:Int)≤Ac.d a - Ac.d a; omega)
   (show Ac.d a - Ac.d a≤(9223372036854775807:Int); omega)
   refine ar_add ?_ ?_
   refine an ?_ ?_
   (show (-9223372036854775808:Int)≤Ac.b a+m; omega)
   (show Ac.b a+m≤(9223372036854775807:Int); omega)
   refine ar_sub ?_ ?_
   refine an ?_ ?_
   (show (-9223372036854775808:Int)≤Ac.b a+m - Ac.d a; omega)
   (show Ac.b a+m - Ac.d a≤(9223372036854775807:Int); omega)
   rotate_left
   (exfalso; omega)
   cases hu:a.u with
   | nil =>
    rw [← hu]
    refine v33c (by omega) hu (fun y=>?_)
    have hz:ints (insI n a.u)=[Data.int .i64 n]:=by rw [hu]; rfl
    rw [hz] at fin
    refine sd ?_
    refine sd ?_
    refine sd ?_
    refine an ?_ ?_
    refine an ?_ ?_
    (show (1:Nat) * (8:Nat)≤(2:Nat) ^ (47:Nat); omega)
    (show (1:Nat)≤(2:Nat) ^ (47:Nat); omega)
    refine sd ?_
    refine sd ?_
    rotate_left
    all_goals (rw [hz]; exact fin)
   | cons x r =>
    have h0:0 < a.u.length:=by rw [hu]; exact Nat.succ_pos _
    have hx:a.u[0]?=some x:=by rw [hu]; rfl
    rw [← hu]
    by_cases hnx:n < x
    ·refine v33a (by omega) h0 (fun z hz=>by rw [hx] at hz; cases hz; exact hnx) (fun y=>?_)
     have hz:insI n a.u=n::a.u:=by rw [hu,insI,decide_eq_true hnx]; rfl
     rw [hz] at fin
     refine sd ?_
     rotate_left
     all_goals (rw [hz]; exact fin)
    ·refine v33b (by omega) h0 (fun z hz=>by rw [hx] at hz; cases hz; exact hnx) (fun R b y hR hRl=>?_)
     have hRi:(ints R).length=R.length:=List.length_map _
     cases b with
     | true =>
      have hR:R=insI n a.u:=by rw [← hR]; exact (List.append_nil R).symm
      rw [← hR] at fin
      refine sd ?_
      rotate_left
      all_goals (rw [← hR]; exact fin)
     | false =>
      have hR:R++[n]=insI n a.u:=hR
      have hz:ints (insI n a.u)=ints R++[Data.int .i64 n]:=by rw [← hR]; exact List.map_append
      rw [hz] at fin
      refine sd ?_
      refine sd ?_
      refine sd ?_
      refine an ?_ ?_
      refine an ?_ ?_
      exact rfl
      refine an ?_ ?_
      exact rfl
      refine an ?_ ?_
      exact rfl
      refine an ?_ ?_
      (show (List.length (ints R)+(1:Nat)) * (8:Nat)≤(2:Nat) ^ (47:Nat); omega)
      (show List.length (ints R)+(1:Nat)≤(2:Nat) ^ (47:Nat); omega)
      refine sd ?_
      refine sd ?_
      rotate_left
      all_goals (rw [hz]; exact fin)
  ·rw [bne_t h]
   refine call_of_vc (x:=jr33) (by kernel_rfl) rfl ?_
   refine ar_mul ?_ ?_
   refine an ?_ ?_
   (show (-9223372036854775808:Int)≤m * Ac.s a; omega)
   (show m * Ac.s a≤(9223372036854775807:Int); omega)
   refine ar_quo ?_ ?_
   refine an ?_ ?_
   (show (0:Int)≤m * Ac.s a; omega)
   refine an ?_ ?_
   (show m * Ac.s a≤(9223372036854775807:Int); omega)
   (show (1:Int)≤(100:Int); omega)
   refine sd ?_
   refine b_lt (fun t1=>?_) (fun t1=>?_)
   refine ca c105_ ?_
   refine ca (c97 _ _) ?_
   refine ca c66_ ?_
   refine ca (c97 _ _) ?_
   refine sd ?_
   refine ca (c97 _ _) ?_
   refine ar_sub ?_ ?_
   refine an ?_ ?_
   (show (-9223372036854775808:Int)≤m - Ac.d a; omega)
   (show m - Ac.d a≤(9223372036854775807:Int); omega)
   refine ar_sub ?_ ?_
   refine an ?_ ?_
   (show (-9223372036854775808:Int)≤(1000000000000:Int) - (m - Ac.d a); omega)
   (show (1000000000000:Int) - (m - Ac.d a)≤(9223372036854775807:Int); omega)
   refine sd ?_
   refine ca (c97 _ _) ?_
   refine sd ?_
   refine sd ?_
   refine ca c96_ ?_
   refine sd ?_
   refine b_ne (fun t2=>?_) (fun t2=>?_)
   exact rfl
   (exfalso; omega)
   (exfalso; omega)
 ·have ep:pay a m=m * a.s / 100:=by unfold pay; omega
  rw [ep] at hp1 hp2 hp3
  have c96_:CallDet Tryz.prog 96 [.d (.slice 1 [.int .i64 (bif !(va a c n m q) then 27 else 0),.int .i64 (bif a.u.contains n then 9 else 0),.int .i64 (bif decide (256≤(((ints a.u).length:Nat):Int)) then 5 else 0),.int .i64 (bif decide (1000000000000 - (m - m * a.s / 100) < a.b) then 4 else 0)])] [.int .i64 (crE a c n m q)]:=by
   rw [← crE_ref hA,ep]; exact c96 [bif !(va a c n m q) then 27 else 0,bif a.u.contains n then 9 else 0,bif decide (256≤(((ints a.u).length:Nat):Int)) then 5 else 0,bif decide (1000000000000 - (m - m * a.s / 100) < a.b) then 4 else 0] (by simp)
  by_cases h:crE a c n m q=0
  ·rw [h] at c96_ ⊢
   have eb:a.b+m - m * a.s / 100=a.b+(m - m * a.s / 100):=by omega
   have fin:resV [.agg [.int .i64 (a.b+m - m * a.s / 100),.int .i64 (a.d - m * a.s / 100),.int .i64 a.s,.int .i64 a.e,.int .u8 a.k.a,.int .u8 a.k.b,.int .u8 a.k.c,.int .u8 a.k.d,.int .u8 a.k.e,.int .u8 a.k.f,.int .u8 a.k.g,.int .u8 a.k.h,.int .u8 a.n.a,.int .u8 a.n.b,.int .u8 a.n.c,.int .u8 a.n.d,.int .u8 a.n.e,.int .u8 a.n.f,.int .u8 a.n.g,.int .u8 a.n.h,.bool c,.slice 1 (ints (insI n a.u))],.int .i64 0]=resV [.agg [.int .i64 (a.b+(m - pay a m)),.int .i64 (a.d - pay a m),.int .i64 a.s,.int .i64 a.e,.int .u8 a.k.a,.int .u8 a.k.b,.int .u8 a.k.c,.int .u8 a.k.d,.int .u8 a.k.e,.int .u8 a.k.f,.int .u8 a.k.g,.int .u8 a.k.h,.int .u8 a.n.a,.int .u8 a.n.b,.int .u8 a.n.c,.int .u8 a.n.d,.int .u8 a.n.e,.int .u8 a.n.f,.int .u8 a.n.g,.int .u8 a.n.h,.bool c,.slice 1 (ints (insI n a.u))],.int .i64 0]:=by rw [ep,eb]
   refine call_of_vc (x:=jr33) (by kernel_rfl) rfl ?_
   refine ar_mul ?_ ?_
   refine an ?_ ?_
   (show (-9223372036854775808:Int)≤m * Ac.s a; omega)
   (show m * Ac.s a≤(9223372036854775807:Int); omega)
   refine ar_quo ?_ ?_
   refine an ?_ ?_
   (show (0:Int)≤m * Ac.s a; omega)
   refine an ?_ ?_
   (show m * Ac.s a≤(9223372036854775807:Int); omega)
   (show (1:Int)≤(100:Int); omega)
   refine sd ?_
   refine b_lt (fun t1=>?_) (fun t1=>?_)
   (exfalso; omega)
   refine ca c105_ ?_
   refine ca (c97 _ _) ?_
   refine ca c66_ ?_
   refine ca (c97 _ _) ?_
   refine sd ?_
   refine ca (c97 _ _) ?_
   refine ar_sub ?_ ?_
   refine an ?_ ?_
   (show (-9223372036854775808:Int)≤m - m * Ac.s a / (100:Int); omega)
   (show m - m * Ac.s a / (100:Int)≤(9223372036854775807:Int); omega)
   refine ar_sub ?_ ?_
   refine an ?_ ?_
   (show (-9223372036854775808:Int)≤(1000000000000:Int) - (m - m * Ac.s a / (100:Int)); omega)
   (show (1000000000000:Int) - (m - m * Ac.s a / (100:Int))≤(9223372036854775807:Int); omega)
   refine sd ?_
   refine ca (c97 _ _) ?_
   refine sd ?_
   refine sd ?_
   refine ca c96_ ?_
   refine sd ?_
   refine ca c94_ ?_
   refine ar_sub ?_ ?_
   refine an ?_ ?_
   (show (-9223372036854775808:Int)≤Ac.d a - m * Ac.s a / (100:Int); omega)
   (show Ac.d a - m * Ac.s a / (100:Int)≤(9223372036854775807:Int); omega)
   refine ar_add ?_ ?_
   refine an ?_ ?_
   (show (-9223372036854775808:Int)≤Ac.b a+m; omega)
   (show Ac.b a+m≤(9223372036854775807:Int); omega)
   refine ar_sub ?_ ?_
   refine an ?_ ?_
   (show (-9223372036854775808:Int)≤Ac.b a+m - m * Ac.s a / (100:Int); omega)
   (show Ac.b a+m - m * Ac.s a / (100:Int)≤(9223372036854775807:Int); omega)
   rotate_left
   cases hu:a.u with
   | nil =>
    rw [← hu]
    refine v33c (by omega) hu (fun y=>?_)
    have hz:ints (insI n a.u)=[Data.int .i64 n]:=by rw [hu]; rfl
    rw [hz] at fin
    refine sd ?_
    refine sd ?_
    refine sd ?_
    refine an ?_ ?_
    refine an ?_ ?_
    (show (1:Nat) * (8:Nat)≤(2:Nat) ^ (47:Nat); omega)
    (show (1:Nat)≤(2:Nat) ^ (47:Nat); omega)
    refine sd ?_
    refine sd ?_
    rotate_left
    all_goals (rw [hz]; exact fin)
   | cons x r =>
    have h0:0 < a.u.length:=by rw [hu]; exact Nat.succ_pos _
    have hx:a.u[0]?=some x:=by rw [hu]; rfl
    rw [← hu]
    by_cases hnx:n < x
    ·refine v33a (by omega) h0 (fun z hz=>by rw [hx] at hz; cases hz; exact hnx) (fun y=>?_)
     have hz:insI n a.u=n::a.u:=by rw [hu,insI,decide_eq_true hnx]; rfl
     rw [hz] at fin
     refine sd ?_
     rotate_left
     all_goals (rw [hz]; exact fin)
    ·refine v33b (by omega) h0 (fun z hz=>by rw [hx] at hz; cases hz; exact hnx) (fun R b y hR hRl=>?_)
     have hRi:(ints R).length=R.length:=List.length_map _
     cases b with
     | true =>
      have hR:R=insI n a.u:=by rw [← hR]; exact (List.append_nil R).symm
      rw [← hR] at fin
      refine sd ?_
      rotate_left
      all_goals (rw [← hR]; exact fin)
     | false =>
      have hR:R++[n]=insI n a.u:=hR
      have hz:ints (insI n a.u)=ints R++[Data.int .i64 n]:=by rw [← hR]; exact List.map_append
      rw [hz] at fin
      refine sd ?_
      refine sd ?_
      refine sd ?_
      refine an ?_ ?_
      refine an ?_ ?_
      exact rfl
      refine an ?_ ?_
      exact rfl
      refine an ?_ ?_
      exact rfl
      refine an ?_ ?_
      (show (List.length (ints R)+(1:Nat)) * (8:Nat)≤(2:Nat) ^ (47:Nat); omega)
      (show List.length (ints R)+(1:Nat)≤(2:Nat) ^ (47:Nat); omega)
      refine sd ?_
      refine sd ?_
      rotate_left
      all_goals (rw [hz]; exact fin)
  ·rw [bne_t h]
   refine call_of_vc (x:=jr33) (by kernel_rfl) rfl ?_
   refine ar_mul ?_ ?_
   refine an ?_ ?_
   (show (-9223372036854775808:Int)≤m * Ac.s a; omega)
   (show m * Ac.s a≤(9223372036854775807:Int); omega)
   refine ar_quo ?_ ?_
   refine an ?_ ?_
   (show (0:Int)≤m * Ac.s a; omega)
   refine an ?_ ?_
   (show m * Ac.s a≤(9223372036854775807:Int); omega)
   (show (1:Int)≤(100:Int); omega)
   refine sd ?_
   refine b_lt (fun t1=>?_) (fun t1=>?_)
   (exfalso; omega)
   refine ca c105_ ?_
   refine ca (c97 _ _) ?_
   refine ca c66_ ?_
   refine ca (c97 _ _) ?_
   refine sd ?_
   refine ca (c97 _ _) ?_
   refine ar_sub ?_ ?_
   refine an ?_ ?_
   (show (-9223372036854775808:Int)≤m - m * Ac.s a / (100:Int); omega)
   (show m - m * Ac.s a / (100:Int)≤(9223372036854775807:Int); omega)
   refine ar_sub ?_ ?_
   refine an ?_ ?_
   (show (-9223372036854775808:Int)≤(1000000000000:Int) - (m - m * Ac.s a / (100:Int)); omega)
   (show (1000000000000:Int) - (m - m * Ac.s a / (100:Int))≤(9223372036854775807:Int); omega)
   refine sd ?_
   refine ca (c97 _ _) ?_
   refine sd ?_
   refine sd ?_
   refine ca c96_ ?_
   refine sd ?_
   refine b_ne (fun t2=>?_) (fun t2=>?_)
   exact rfl
   (exfalso; omega)
end Vc
