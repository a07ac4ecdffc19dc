import Derived.Test.YtmjbifmndhianaaGreatDoorG18
set_option linter.unusedSectionVars false
set_option linter.unusedVariables false
set_option linter.unusedSimpArgs false
set_option maxRecDepth 10000
set_option maxHeartbeats 4000000
namespace Vc
open Go Go.Proofs
structure Tk where
 n:Int
 m:Int
 q:Ky
def tkd (t:Tk):Data:=.agg [.int .i64 t.n,.int .i64 t.m,.int .u8 t.q.a,.int .u8 t.q.b,.int .u8 t.q.c,.int .u8 t.q.d,.int .u8 t.q.e,.int .u8 t.q.f,.int .u8 t.q.g,.int .u8 t.q.h]
def tks (l:List Tk):List Data:=l.map tkd
theorem tks_len (l:List Tk):(tks l).length=l.length:=List.length_map _
theorem tks_at {l:List Tk} {k:Nat} {t:Tk} (h:l[k]?=some t):(tks l)[((k:Int)).toNat]?=some (.agg [.int .i64 t.n,.int .i64 t.m,.int .u8 t.q.a,.int .u8 t.q.b,.int .u8 t.q.c,.int .u8 t.q.d,.int .u8 t.q.e,.int .u8 t.q.f,.int .u8 t.q.g,.int .u8 t.q.h]):=by
 show (l.map _)[k]?=_
 rw [List.getElem?_map,h]; rfl
def ckt (t:Tk):Int:=ckT t.n t.m
def ixs (l:List (Tk × Int)):List Data:=l.map fun x=>.agg [.int .i64 x.1.n,.int .i64 x.1.m,.int .u8 x.1.q.a,.int .u8 x.1.q.b,.int .u8 x.1.q.c,.int .u8 x.1.q.d,.int .u8 x.1.q.e,.int .u8 x.1.q.f,.int .u8 x.1.q.g,.int .u8 x.1.q.h,.int .i64 x.2]
theorem ixs_len (l:List (Tk × Int)):(ixs l).length=l.length:=List.length_map _
theorem ixs_at {l:List (Tk × Int)} {k:Nat} {x:Tk × Int} (h:l[k]?=some x):(ixs l)[((k:Int)).toNat]?=some (.agg [.int .i64 x.1.n,.int .i64 x.1.m,.int .u8 x.1.q.a,.int .u8 x.1.q.b,.int .u8 x.1.q.c,.int .u8 x.1.q.d,.int .u8 x.1.q.e,.int .u8 x.1.q.f,.int .u8 x.1.q.g,.int .u8 x.1.q.h,.int .i64 x.2]):=by
 show (l.map _)[k]?=_
 rw [List.getElem?_map,h]; rfl
def jr101:AFun:=⟨22,3,[.tmp 4],
 (.seq
 (.reg [] [⟨some 4,.mov (.cst (.nils 1)),none⟩])
 (.seq
  (.reg [] [⟨some 5,.mov (.cst (.nils 1)),none⟩])
  (.seq
  (.seq
   (.reg [] [⟨some 8,.mov (.tmp 0),none⟩,
    ⟨some 9,.len (.tmp 8),none⟩,
    ⟨some 10,.mov (.cst (.d (.int .i64 0))),none⟩])
   (.post [5] [0,1,2]
   (.block 0
    (.asrow 2 30 1 5
    (.keep [1,5,8,9,10] []
     (.loop
     (.post [1,5,8,9,10] [0,1,2]
      (.seq
      (.reg [] [⟨some 11,.cmp .lss (.tmp 10) (.tmp 9),none⟩])
      (.seq
       (.cond (.tmp 11)
       .skip
       (.exit 0))
       (.seq
       (.block 1
        (.seq
        (.reg [0] [⟨some 12,.ixa 10 (.tmp 8) (.tmp 10),none⟩,
         ⟨some 13,.ld true 10 (.tmp 12),none⟩,
         ⟨some 7,.alloc 0 [(.d (.int .i64 0)),(.d (.int .i64 0)),(.d (.int .u8 0)),(.d (.int .u8 0)),(.d (.int .u8 0)),(.d (.int .u8 0)),(.d (.int .u8 0)),(.d (.int .u8 0)),(.d (.int .u8 0)),(.d (.int .u8 0))],none⟩,
         ⟨none,.st 10 (.tmp 7) (.tmp 13),none⟩])
        (.reg [1,2] [⟨some 14,.mov (.tmp 5),none⟩,
         ⟨some 15,.mov (.tmp 1),none⟩,
         ⟨some 16,.ld true 10 (.tmp 7),none⟩,
         ⟨some 17,.callv (.tmp 15) [(.tmp 16)],none⟩,
         ⟨some 18,.bsl 1 30 1 1 [(.int .i64 0)] [(0,(.tmp 17))],none⟩,
         ⟨some 19,.app 2 30 1 8 (.tmp 14) (.tmp 18),none⟩,
         ⟨some 5,.mov (.tmp 19),none⟩])))
       (.reg [] [⟨some 20,.arith .add .i64 (.tmp 10) (.cst (.d (.int .i64 1))),none⟩,
        ⟨some 10,.mov (.tmp 20),none⟩])))))))))))
  (.seq
   (.reg [] [⟨some 21,.mov (.tmp 5),none⟩,
    ⟨some 4,.mov (.tmp 21),none⟩])
   .ret))))⟩
def jr102:AFun:=⟨22,3,[.tmp 4],
 (.seq
 (.reg [] [⟨some 4,.mov (.cst (.nils 1)),none⟩])
 (.seq
  (.reg [] [⟨some 5,.mov (.cst (.nils 1)),none⟩])
  (.seq
  (.seq
   (.reg [] [⟨some 8,.mov (.tmp 0),none⟩,
    ⟨some 9,.len (.tmp 8),none⟩,
    ⟨some 10,.mov (.cst (.d (.int .i64 0))),none⟩])
   (.post [5] [0,1,2]
   (.block 0
    (.asrow 2 3 1 5
    (.keep [1,5,8,9,10] []
     (.loop
     (.post [1,5,8,9,10] [0,1,2]
      (.seq
      (.reg [] [⟨some 11,.cmp .lss (.tmp 10) (.tmp 9),none⟩])
      (.seq
       (.cond (.tmp 11)
       .skip
       (.exit 0))
       (.seq
       (.block 1
        (.seq
        (.reg [0] [⟨some 12,.ixa 11 (.tmp 8) (.tmp 10),none⟩,
         ⟨some 13,.ld true 11 (.tmp 12),none⟩,
         ⟨some 7,.alloc 0 [(.d (.int .i64 0)),(.d (.int .i64 0)),(.d (.int .u8 0)),(.d (.int .u8 0)),(.d (.int .u8 0)),(.d (.int .u8 0)),(.d (.int .u8 0)),(.d (.int .u8 0)),(.d (.int .u8 0)),(.d (.int .u8 0)),(.d (.int .i64 0))],none⟩,
         ⟨none,.st 11 (.tmp 7) (.tmp 13),none⟩])
        (.reg [1,2] [⟨some 14,.mov (.tmp 5),none⟩,
         ⟨some 15,.mov (.tmp 1),none⟩,
         ⟨some 16,.ld true 11 (.tmp 7),none⟩,
         ⟨some 17,.callv (.tmp 15) [(.tmp 16)],none⟩,
         ⟨some 18,.bsl 1 3 1 1 [(.int .i64 0)] [(0,(.tmp 17))],none⟩,
         ⟨some 19,.app 2 3 1 8 (.tmp 14) (.tmp 18),none⟩,
         ⟨some 5,.mov (.tmp 19),none⟩])))
       (.reg [] [⟨some 20,.arith .add .i64 (.tmp 10) (.cst (.d (.int .i64 1))),none⟩,
        ⟨some 10,.mov (.tmp 20),none⟩])))))))))))
  (.seq
   (.reg [] [⟨some 21,.mov (.tmp 5),none⟩,
    ⟨some 4,.mov (.tmp 21),none⟩])
   .ret))))⟩
def jr103:AFun:=⟨5,1,[.tmp 2],
 (.seq
 (.reg [0] [⟨some 1,.cbx 0 11 (.tmp 0),none⟩,
  ⟨some 2,.mov (.cst (.d (.int .i64 0))),none⟩])
 (.seq
  (.reg [] [⟨some 3,.fad 10 (.tmp 1),none⟩,
   ⟨some 4,.ld false 1 (.tmp 3),none⟩,
   ⟨some 2,.mov (.tmp 4),none⟩])
  .ret))⟩
theorem c99x (t:Tk):CallDet Tryz.prog 99 [.d (.agg [.int .i64 t.n,.int .i64 t.m,.int .u8 t.q.a,.int .u8 t.q.b,.int .u8 t.q.c,.int .u8 t.q.d,.int .u8 t.q.e,.int .u8 t.q.f,.int .u8 t.q.g,.int .u8 t.q.h])] [.int .i64 (ckt t)]:=c99 t.n t.m t.q
theorem c103 (x:Tk × Int):CallDet Tryz.prog 103 [.d (.agg [.int .i64 x.1.n,.int .i64 x.1.m,.int .u8 x.1.q.a,.int .u8 x.1.q.b,.int .u8 x.1.q.c,.int .u8 x.1.q.d,.int .u8 x.1.q.e,.int .u8 x.1.q.f,.int .u8 x.1.q.g,.int .u8 x.1.q.h,.int .i64 x.2])] [.int .i64 x.2]:=by
 refine call_of_vc (x:=jr103) (by kernel_rfl) rfl ?_
 exact rfl
theorem c101 (l:List Tk) (hl:l.length≤1000000):CallDet Tryz.prog 101 [.d (.slice 10 (tks l)),.d (.fn (.func 99) [])] [.slice 1 (ints (l.map ckt))]:=by
 have hll:=tks_len l
 refine call_of_vc (x:=jr101) (by kernel_rfl) rfl ?_
 refine loop_st (fun k:Nat=>⟨[(1,.d (.fn (.func 99) [])),(5,.sl 2 (ints ((l.take k).map ckt)).length),(8,.d (.slice 10 (tks l))),(9,.d (.int .i64 (((tks l).length:Nat):Int))),(10,.d (.int .i64 ((k:Nat))))],[.none,.none,.row 30 1 (ints ((l.take k).map ckt)) false]⟩) (fun k=>k≤l.length) (fun k=>l.length - k) 0 rfl (Nat.zero_le _) ?_
 intro k hk
 have hk:k≤l.length:=hk
 have hlk:(ints ((l.take k).map ckt)).length=min k l.length:=by unfold ints; rw [List.length_map,List.length_map,List.length_take]
 dsimp only
 by_cases hkn:k < l.length
 ·refine Exists.elim (get_lt l hkn) fun x hx=>?_
  have hx1:=tks_at hx
  have c99_:=c99x x
  have fin:∃ a':Nat,(a'≤l.length∧l.length - a' < l.length - k)∧(⟨[(1,.d (.fn (.func 99) [])),(5,.sl 2 (ints ((l.take k).map ckt)++[Data.int .i64 (ckt x)]).length),(8,.d (.slice 10 (tks l))),(9,.d (.int .i64 (((tks l).length:Nat):Int))),(10,.d (.int .i64 ((k:Int)+1)))],[.none,.none,.row 30 1 (ints ((l.take k).map ckt)++[Data.int .i64 (ckt x)]) false]⟩:St)=⟨[(1,.d (.fn (.func 99) [])),(5,.sl 2 (ints ((l.take a').map ckt)).length),(8,.d (.slice 10 (tks l))),(9,.d (.int .i64 (((tks l).length:Nat):Int))),(10,.d (.int .i64 ((a':Nat))))],[.none,.none,.row 30 1 (ints ((l.take a').map ckt)) false]⟩:=⟨k+1,⟨by omega,by omega⟩,by rw [take_map_succ ckt hx]; unfold ints; rw [List.map_append]; rfl⟩
  refine sd ?_
  refine b_lt (fun t1=>?_) (fun t1=>?_)
  refine ix_at hx1 ?_ ?_
  (show (0:Int)≤(↑k:Int); omega)
  refine ca c99_ ?_
  refine sd ?_
  refine sd ?_
  refine sd ?_
  refine an ?_ ?_
  refine an ?_ ?_
  exact rfl
  refine an ?_ ?_
  exact rfl
  refine an ?_ ?_
  exact rfl
  refine an ?_ ?_
  (show (List.length (ints (List.map ckt (List.take k l)))+(1:Nat)) * (8:Nat)≤(2:Nat) ^ (47:Nat); omega)
  (show List.length (ints (List.map ckt (List.take k l)))+(1:Nat)≤(2:Nat) ^ (47:Nat); omega)
  refine ar_add ?_ ?_
  refine an ?_ ?_
  (show (-9223372036854775808:Int)≤(↑k:Int)+(1:Int); omega)
  (show (↑k:Int)+(1:Int)≤(9223372036854775807:Int); omega)
  rotate_left
  (exfalso; omega)
  all_goals exact fin
 ·have e:l.take k=l:=List.take_of_length_le (by omega)
  rw [e]
  refine sd ?_
  refine b_lt (fun t1=>?_) (fun t1=>?_)
  (exfalso; omega)
  refine sd ?_
  exact rfl
theorem c102 (l:List (Tk × Int)) (hl:l.length≤1000000):CallDet Tryz.prog 102 [.d (.slice 11 (ixs l)),.d (.fn (.func 103) [])] [.slice 1 (ints (l.map Prod.snd))]:=by
 have hll:=ixs_len l
 refine call_of_vc (x:=jr102) (by kernel_rfl) rfl ?_
 refine loop_st (fun k:Nat=>⟨[(1,.d (.fn (.func 103) [])),(5,.sl 2 (ints ((l.take k).map Prod.snd)).length),(8,.d (.slice 11 (ixs l))),(9,.d (.int .i64 (((ixs l).length:Nat):Int))),(10,.d (.int .i64 ((k:Nat))))],[.none,.none,.row 3 1 (ints ((l.take k).map Prod.snd)) false]⟩) (fun k=>k≤l.length) (fun k=>l.length - k) 0 rfl (Nat.zero_le _) ?_
 intro k hk
 have hk:k≤l.length:=hk
 have hlk:(ints ((l.take k).map Prod.snd)).length=min k l.length:=by unfold ints; rw [List.length_map,List.length_map,List.length_take]
 dsimp only
 by_cases hkn:k < l.length
 ·refine Exists.elim (get_lt l hkn) fun x hx=>?_
  have hx1:=ixs_at hx
  have c103_:=c103 x
  have fin:∃ a':Nat,(a'≤l.length∧l.length - a' < l.length - k)∧(⟨[(1,.d (.fn (.func 103) [])),(5,.sl 2 (ints ((l.take k).map Prod.snd)++[Data.int .i64 x.2]).length),(8,.d (.slice 11 (ixs l))),(9,.d (.int .i64 (((ixs l).length:Nat):Int))),(10,.d (.int .i64 ((k:Int)+1)))],[.none,.none,.row 3 1 (ints ((l.take k).map Prod.snd)++[Data.int .i64 x.2]) false]⟩:St)=⟨[(1,.d (.fn (.func 103) [])),(5,.sl 2 (ints ((l.take a').map Prod.snd)).length),(8,.d (.slice 11 (ixs l))),(9,.d (.int .i64 (((ixs l).length:Nat):Int))),(10,.d (.int .i64 ((a':Nat))))],[.none,.none,.row 3 1 (ints ((l.take a').map Prod.snd)) false]⟩:=⟨k+1,⟨by omega,by omega⟩,by rw [take_map_succ Prod.snd hx]; unfold ints; rw [List.map_append]; rfl⟩
  refine sd ?_
  refine b_lt (fun t1=>?_) (fun t1=>?_)
  refine ix_at hx1 ?_ ?_
  (show (0:Int)≤(↑k:Int); omega)
  refine ca c103_ ?_
  refine sd ?_
  refine sd ?_
  refine sd ?_
  refine an ?_ ?_
  refine an ?_ ?_
  exact rfl
  refine an ?_ ?_
  exact rfl
  refine an ?_ ?_
  exact rfl
  refine an ?_ ?_
  (show (List.length (ints (List.map Prod.snd (List.take k l)))+(1:Nat)) * (8:Nat)≤(2:Nat) ^ (47:Nat); omega)
  (show List.length (ints (List.map Prod.snd (List.take k l)))+(1:Nat)≤(2:Nat) ^ (47:Nat); omega)
  refine ar_add ?_ ?_
  refine an ?_ ?_
  (show (-9223372036854775808:Int)≤(↑k:Int)+(1:Int); omega)
  (show (↑k:Int)+(1:Int)≤(9223372036854775807:Int); omega)
  rotate_left
  (exfalso; omega)
  all_goals exact fin
 ·have e:l.take k=l:=List.take_of_length_le (by omega)
  rw [e]
  refine sd ?_
  refine b_lt (fun t1=>?_) (fun t1=>?_)
  (exfalso; omega)
  refine sd ?_
  exact rfl
def tksE (l:List Tk):Int:=bif decide ((256:Int) < (((tks l).length:Nat):Int)) then 5 else firstOf (l.map ckt)
def crO (a:Ac) (n m:Int):Ac:=⟨a.b+(m - pay a m),a.d - pay a m,a.s,a.e,a.k,a.n,a.c,insI n a.u⟩
theorem c28 (a:Ac) (c:Bool) (n m:Int) (q:Ky) (hl:a.u.length≤1048576) (hk:a.k.ok) (hn:a.n.ok):CallDet Tryz.prog 28 [.d (.agg [.int .i64 (a.b),.int .i64 (a.d),.int .i64 a.s,.int .i64 a.e,.int .u8 a.k.a,.int .u8 a.k.b,.int .u8 a.k.c,.int .u8 a.k.d,.int .u8 a.k.e,.int .u8 a.k.f,.int .u8 a.k.g,.int .u8 a.k.h,.int .u8 a.n.a,.int .u8 a.n.b,.int .u8 a.n.c,.int .u8 a.n.d,.int .u8 a.n.e,.int .u8 a.n.f,.int .u8 a.n.g,.int .u8 a.n.h,.bool c,.slice 1 (ints a.u)]),.d (.agg [.int .i64 n,.int .i64 m,.int .u8 q.a,.int .u8 q.b,.int .u8 q.c,.int .u8 q.d,.int .u8 q.e,.int .u8 q.f,.int .u8 q.g,.int .u8 q.h])] (bif firstOf [ckA a c,ckT n m] != 0 then [.agg [.int .i64 0,.int .i64 0,.int .i64 0,.int .i64 0,.int .u8 0,.int .u8 0,.int .u8 0,.int .u8 0,.int .u8 0,.int .u8 0,.int .u8 0,.int .u8 0,.int .u8 0,.int .u8 0,.int .u8 0,.int .u8 0,.int .u8 0,.int .u8 0,.int .u8 0,.int .u8 0,.bool false,.slice 1 []],.int .i64 (firstOf [ckA a c,ckT n m])] else bif crE a c n m q != 0 then [.agg [.int .i64 0,.int .i64 0,.int .i64 0,.int .i64 0,.int .u8 0,.int .u8 0,.int .u8 0,.int .u8 0,.int .u8 0,.int .u8 0,.int .u8 0,.int .u8 0,.int .u8 0,.int .u8 0,.int .u8 0,.int .u8 0,.int .u8 0,.int .u8 0,.int .u8 0,.int .u8 0,.bool false,.slice 1 []],.int .i64 (crE a c n m q)] else [.agg [.int .i64 (a.b+(m - pay a m)),.int .i64 (a.d - pay a m),.int .i64 a.s,.int .i64 a.e,.int .u8 a.k.a,.int .u8 a.k.b,.int .u8 a.k.c,.int .u8 a.k.d,.int .u8 a.k.e,.int .u8 a.k.f,.int .u8 a.k.g,.int .u8 a.k.h,.int .u8 a.n.a,.int .u8 a.n.b,.int .u8 a.n.c,.int .u8 a.n.d,.int .u8 a.n.e,.int .u8 a.n.f,.int .u8 a.n.g,.int .u8 a.n.h,.bool c,.slice 1 (ints (insI n a.u))],.int .i64 0]):=by
 have c25_:=c25 a c hl
 have c99_:=c99 n m q
 have c90_:CallDet Tryz.prog 90 [.d (.slice 1 [.int .i64 (ckA a c),.int .i64 (ckT n m)])] [.int .i64 (firstOf [ckA a c,ckT n m])]:=c90 [ckA a c,ckT n m] (by simp)
 by_cases h:firstOf [ckA a c,ckT n m]=0
 ·have hA:=firstOf_zero h (ckA a c) (by simp)
  have hT:=firstOf_zero h (ckT n m) (by simp)
  have c100_:=c100 a c n m q hk hn hA hT
  rw [h] at c90_ ⊢
  by_cases h2:crE a c n m q=0
  ·rw [h2] at c100_ ⊢
   refine call_of_vc (x:=jr28) (by kernel_rfl) rfl ?_
   refine ca c25_ ?_
   refine ca c99_ ?_
   refine sd ?_
   refine sd ?_
   refine ca c90_ ?_
   refine sd ?_
   refine ca c100_ ?_
   refine sd ?_
   exact rfl
  ·rw [bne_t h2] at c100_ ⊢
   refine call_of_vc (x:=jr28) (by kernel_rfl) rfl ?_
   refine ca c25_ ?_
   refine ca c99_ ?_
   refine sd ?_
   refine sd ?_
   refine ca c90_ ?_
   refine sd ?_
   refine ca c100_ ?_
   refine sd ?_
   refine b_ne (fun t1=>?_) (fun t1=>?_)
   exact rfl
   (exfalso; omega)
 ·rw [bne_t h]
  refine call_of_vc (x:=jr28) (by kernel_rfl) rfl ?_
  refine ca c25_ ?_
  refine ca c99_ ?_
  refine sd ?_
  refine sd ?_
  refine ca c90_ ?_
  refine sd ?_
  refine b_ne (fun t1=>?_) (fun t1=>?_)
  exact rfl
  (exfalso; omega)
end Vc
