import Derived.Test.YtifgdpnmgeffbaaGreatDoorG10
set_option linter.unusedSectionVars false
set_option linter.unusedVariables false
set_option linter.unusedSimpArgs false
set_option maxRecDepth 10000
set_option maxHeartbeats 4000000
namespace Vc
open Go Go.Proofs
abbrev Ob:=List UInt8 × List UInt8
structure Gr where
 fr:List UInt8
 to:List UInt8
 ri:List UInt8
 ob:List UInt8
 a:Int
 b:Int
def obs (l:List Ob):List Data:=l.map fun x=>.agg [.str x.1,.str x.2]
theorem obs_len (l:List Ob):(obs l).length=l.length:=List.length_map _
theorem obs_at {l:List Ob} {k:Nat} {x:Ob} (h:l[k]?=some x):(obs l)[((k:Int)).toNat]?=some (.agg [.str x.1,.str x.2]):=by
 show (l.map _)[k]?=_
 rw [List.getElem?_map,h]; rfl
theorem obs_step {l:List Ob} {k:Nat} {x:Ob} (h:l[k]?=some x):obs (l.take (k+1))=obs (l.take k)++[Data.agg [.str x.1,.str x.2]]:=by
 rw [take_one h]; unfold obs; rw [List.map_append]; rfl
def Gr.c (g:Gr):List Data:=[.str g.fr,.str g.to,.str g.ri,.str g.ob,.int .i64 g.a,.int .i64 g.b]
def grs (l:List Gr):List Data:=l.map fun g=>.agg [.str g.fr,.str g.to,.str g.ri,.str g.ob,.int .i64 g.a,.int .i64 g.b]
theorem grs_len (l:List Gr):(grs l).length=l.length:=List.length_map _
theorem grs_at {l:List Gr} {k:Nat} {g:Gr} (h:l[k]?=some g):(grs l)[((k:Int)).toNat]?=some (.agg [.str g.fr,.str g.to,.str g.ri,.str g.ob,.int .i64 g.a,.int .i64 g.b]):=by
 show (l.map _)[k]?=_
 rw [List.getElem?_map,h]; rfl
theorem grs_step {l:List Gr} {k:Nat} {g:Gr} (h:l[k]?=some g):grs (l.take (k+1))=grs (l.take k)++[Data.agg [.str g.fr,.str g.to,.str g.ri,.str g.ob,.int .i64 g.a,.int .i64 g.b]]:=by
 rw [take_one h]; unfold grs; rw [List.map_append]; rfl
def ownO:List Ob→List UInt8→Option (List UInt8)
 | [],_=>none
 | x::r,n=>bif x.1==n then some x.2 else ownO r n
theorem ownO_some (n:List UInt8):∀ l:List Ob,(ownO l n).isSome=(l.map Prod.fst).contains n
 | []=>rfl
 | x::r=>by
  rw [ownO,List.map_cons,List.contains_cons]
  have e:(n==x.1)=(x.1==n):=by rw [Bool.eq_iff_iff,beq_iff_eq,beq_iff_eq]; exact eq_comm
  rw [e]
  cases (x.1==n)
  ·rw [Bool.false_or]; exact ownO_some n r
  ·rfl
theorem ownO_ix (n:List UInt8):∀ (l:List Ob) (k:Int),0≤k→(ixF (fun x=>x.1==n) l k=-1∧ownO l n=none)∨∃ (j:Nat) (x:Ob),ixF (fun x=>x.1==n) l k=k+j∧l[j]?=some x∧ownO l n=some x.2
 | [],k,_=>.inl ⟨rfl,rfl⟩
 | y::r,k,h=>by
  rw [ixF,ownO]
  cases e:(y.1==n) with
  | true=>exact .inr ⟨0,y,by show k=k+0; omega,rfl,rfl⟩
  | false =>
   rcases ownO_ix n r (k+1) (by omega) with ⟨h1,h2⟩ | ⟨j,x,h1,h2,h3⟩
   ·exact .inl ⟨h1,h2⟩
   ·exact .inr ⟨j+1,x,by show ixF _ r (k+1)=_; rw [h1]; omega,h2,h3⟩
def holdB (ri ob:List UInt8) (day:Int) (g:Gr):Bool:=(g.ri==ri&&g.ob==ob)&&(decide (g.a≤day)&&decide (day < g.b))
def spanE (a b m:Int):Int:=bif decide (a < 0)||decide (b≤a)||decide (m < b) then 14 else 0
def shortW (l:List (List UInt8)):Bool:=l.all fun x=>decide ((x.length:Int)≤40)
def jr163:AFun:=⟨8,1,[.tmp 3],
 (.seq
 (.reg [0] [⟨some 2,.cbx 0 2 (.tmp 0),none⟩,
  ⟨some 3,.mov (.cst (.d (.bool false))),none⟩])
 (.seq
  (.reg [] [⟨some 4,.fad 0 (.tmp 2),none⟩,
   ⟨some 5,.ld false 1 (.tmp 4),none⟩,
   ⟨some 6,.ld false 1 (.tmp 1),none⟩,
   ⟨some 7,.seq false (.tmp 5) (.tmp 6),none⟩,
   ⟨some 3,.mov (.tmp 7),none⟩])
  .ret))⟩
def jr162:AFun:=⟨19,0,[.tmp 4],
 (.seq
 (.reg [] [⟨some 4,.mov (.cst (.d (.int .i64 0))),none⟩])
 (.seq
  (.seq
  (.reg [] [⟨some 6,.mov (.tmp 0),none⟩,
   ⟨some 7,.len (.tmp 6),none⟩,
   ⟨some 8,.mov (.cst (.d (.int .i64 0))),none⟩])
  (.post [] []
   (.block 0
   (.keep [0,1,7,8] []
    (.loop
    (.post [0,1,7,8] []
     (.seq
     (.reg [] [⟨some 9,.cmp .lss (.tmp 8) (.tmp 7),none⟩])
     (.seq
      (.cond (.tmp 9)
      .skip
      (.exit 0))
      (.seq
      (.block 1
       (.seq
       (.reg [] [⟨some 10,.mov (.tmp 8),none⟩,
        ⟨some 5,.mov (.tmp 10),none⟩])
       (.seq
        (.reg [] [⟨some 11,.mov (.tmp 1),none⟩,
         ⟨some 12,.mov (.tmp 0),none⟩,
         ⟨some 13,.mov (.tmp 5),none⟩,
         ⟨some 14,.ixa 2 (.tmp 12) (.tmp 13),none⟩,
         ⟨some 15,.ld true 2 (.tmp 14),none⟩,
         ⟨some 16,.callv (.tmp 11) [(.tmp 15)],none⟩])
        (.cond (.tmp 16)
        (.seq
         (.reg [] [⟨some 17,.mov (.tmp 5),none⟩,
          ⟨some 4,.mov (.tmp 17),none⟩])
         .ret)
        .skip))))
      (.reg [] [⟨some 18,.arith .add .i64 (.tmp 8) (.cst (.d (.int .i64 1))),none⟩,
       ⟨some 8,.mov (.tmp 18),none⟩]))))))))))
  (.seq
  (.reg [] [⟨some 4,.mov (.cst (.d (.int .i64 (-1)))),none⟩])
  .ret)))⟩
def jr107:AFun:=⟨19,2,[.tmp 4,.tmp 5],
 (.seq
 (.reg [0,1] [⟨some 2,.cbx 0 2 (.tmp 0),none⟩,
  ⟨some 3,.cbx 1 1 (.tmp 1),none⟩,
  ⟨some 4,.mov (.cst (.d (.str []))),none⟩,
  ⟨some 5,.mov (.cst (.d (.bool false))),none⟩])
 (.seq
  (.reg [] [⟨some 7,.fad 0 (.tmp 2),none⟩,
   ⟨some 8,.ld false 1 (.tmp 7),none⟩,
   ⟨some 9,.mkf (.func 163) [] [(.tmp 3)],none⟩,
   ⟨some 10,.call 162 [(.tmp 8),(.tmp 9)],none⟩,
   ⟨some 6,.mov (.tmp 10),none⟩])
  (.seq
  (.seq
   (.reg [] [⟨some 11,.mov (.tmp 6),none⟩,
    ⟨some 12,.cmp .lss (.tmp 11) (.cst (.d (.int .i64 0))),none⟩])
   (.cond (.tmp 12)
   (.seq
    (.reg [] [⟨some 4,.mov (.cst (.d (.str []))),none⟩,
     ⟨some 5,.mov (.cst (.d (.bool false))),none⟩])
    .ret)
   .skip))
  (.seq
   (.reg [] [⟨some 13,.fad 0 (.tmp 2),none⟩,
    ⟨some 14,.ld false 1 (.tmp 13),none⟩,
    ⟨some 15,.mov (.tmp 6),none⟩,
    ⟨some 16,.ixa 2 (.tmp 14) (.tmp 15),none⟩,
    ⟨some 17,.fad 1 (.tmp 16),none⟩,
    ⟨some 18,.ld false 1 (.tmp 17),none⟩,
    ⟨some 4,.mov (.tmp 18),none⟩,
    ⟨some 5,.mov (.cst (.d (.bool true))),none⟩])
   .ret))))⟩
def jr109:AFun:=⟨25,0,[.tmp 4,.tmp 5],
 (.seq
 (.reg [] [⟨some 4,.mov (.cst (.d (.str []))),none⟩,
  ⟨some 5,.mov (.cst (.d (.bool false))),none⟩])
 (.seq
  (.seq
  (.reg [] [⟨some 6,.mov (.cst (.d (.int .i64 0))),none⟩])
  (.post [] []
   (.block 0
   (.keep [0,1,6] []
    (.loop
    (.post [0,1,6] []
     (.seq
     (.seq
      (.reg [] [⟨some 7,.mov (.tmp 6),none⟩,
       ⟨some 8,.mov (.tmp 0),none⟩,
       ⟨some 9,.len (.tmp 8),none⟩,
       ⟨some 10,.cmp .lss (.tmp 7) (.tmp 9),none⟩])
      (.cond (.tmp 10)
      .skip
      (.exit 0)))
     (.seq
      (.block 1
      (.seq
       (.reg [] [⟨some 13,.mov (.tmp 0),none⟩,
        ⟨some 14,.mov (.tmp 6),none⟩,
        ⟨some 15,.ixa 2 (.tmp 13) (.tmp 14),none⟩,
        ⟨some 16,.fad 0 (.tmp 15),none⟩,
        ⟨some 17,.ld false 1 (.tmp 16),none⟩,
        ⟨some 18,.mov (.tmp 1),none⟩,
        ⟨some 19,.seq false (.tmp 17) (.tmp 18),none⟩])
       (.cond (.tmp 19)
       (.seq
        (.reg [] [⟨some 20,.mov (.tmp 0),none⟩,
         ⟨some 21,.mov (.tmp 6),none⟩,
         ⟨some 22,.ixa 2 (.tmp 20) (.tmp 21),none⟩,
         ⟨some 23,.fad 1 (.tmp 22),none⟩,
         ⟨some 24,.ld false 1 (.tmp 23),none⟩,
         ⟨some 4,.mov (.tmp 24),none⟩,
         ⟨some 5,.mov (.cst (.d (.bool true))),none⟩])
        .ret)
       .skip)))
      (.reg [] [⟨some 11,.mov (.tmp 6),none⟩,
       ⟨some 12,.arith .add .i64 (.tmp 11) (.cst (.d (.int .i64 1))),none⟩,
       ⟨some 6,.mov (.tmp 12),none⟩])))))))))
  (.seq
  (.reg [] [⟨some 4,.mov (.cst (.d (.str []))),none⟩,
   ⟨some 5,.mov (.cst (.d (.bool false))),none⟩])
  .ret)))⟩
def jr108:AFun:=⟨34,2,[.tmp 6],
 (.seq
 (.reg [0,1] [⟨some 3,.cbx 0 4 (.tmp 0),none⟩,
  ⟨some 4,.cbx 1 6 (.tmp 1),none⟩,
  ⟨some 6,.mov (.cst (.d (.bool false))),none⟩])
 (.seq
  (.reg [] [⟨some 7,.ld true 6 (.tmp 4),none⟩,
   ⟨some 8,.fad 0 (.tmp 4),none⟩,
   ⟨some 9,.ld false 1 (.tmp 8),none⟩,
   ⟨some 10,.fad 1 (.tmp 4),none⟩,
   ⟨some 11,.ld false 1 (.tmp 10),none⟩,
   ⟨some 12,.fad 2 (.tmp 3),none⟩,
   ⟨some 13,.ld false 1 (.tmp 12),none⟩,
   ⟨some 14,.fad 3 (.tmp 3),none⟩,
   ⟨some 15,.ld false 1 (.tmp 14),none⟩,
   ⟨some 16,.fad 4 (.tmp 4),none⟩,
   ⟨some 17,.ld true 2 (.tmp 16),none⟩,
   ⟨some 18,.build [(.d (.str [])),(.d (.str [])),(.d (.str [])),(.d (.str [])),(.d (.int .i64 0)),(.d (.int .i64 0))] [(0,1,(.tmp 9)),(1,1,(.tmp 11)),(2,1,(.tmp 13)),(3,1,(.tmp 15)),(4,2,(.tmp 17))],none⟩,
   ⟨some 19,.aeq false [2,2,2,2,0,0] (.tmp 7) (.tmp 18),none⟩,
   ⟨some 20,.mov (.tmp 19),none⟩,
   ⟨some 21,.mov (.tmp 2),some (20,true)⟩,
   ⟨some 22,.fad 4 (.tmp 4),some (20,true)⟩,
   ⟨some 23,.fad 0 (.tmp 22),some (20,true)⟩,
   ⟨some 24,.ld false 1 (.tmp 23),some (20,true)⟩,
   ⟨some 25,.cmp .geq (.tmp 21) (.tmp 24),some (20,true)⟩,
   ⟨some 26,.pick (.tmp 20) (.tmp 25) (.cst (.d (.bool false))),none⟩,
   ⟨some 27,.mov (.tmp 26),none⟩,
   ⟨some 28,.mov (.tmp 2),some (27,true)⟩,
   ⟨some 29,.fad 4 (.tmp 4),some (27,true)⟩,
   ⟨some 30,.fad 1 (.tmp 29),some (27,true)⟩,
   ⟨some 31,.ld false 1 (.tmp 30),some (27,true)⟩,
   ⟨some 32,.cmp .lss (.tmp 28) (.tmp 31),some (27,true)⟩,
   ⟨some 33,.pick (.tmp 27) (.tmp 32) (.cst (.d (.bool false))),none⟩,
   ⟨some 6,.mov (.tmp 33),none⟩])
  .ret))⟩
def jr93:AFun:=⟨22,1,[.tmp 4],
 (.seq
 (.reg [0] [⟨some 2,.cbx 0 2 (.tmp 0),none⟩,
  ⟨some 4,.mov (.cst (.d (.int .i64 0))),none⟩])
 (.seq
  (.reg [] [⟨some 5,.fad 0 (.tmp 2),none⟩,
   ⟨some 6,.ld false 1 (.tmp 5),none⟩,
   ⟨some 7,.cmp .lss (.tmp 6) (.cst (.d (.int .i64 0))),none⟩,
   ⟨some 8,.mov (.tmp 7),none⟩,
   ⟨some 9,.fad 0 (.tmp 2),some (8,false)⟩,
   ⟨some 10,.ld false 1 (.tmp 9),some (8,false)⟩,
   ⟨some 11,.fad 1 (.tmp 2),some (8,false)⟩,
   ⟨some 12,.ld false 1 (.tmp 11),some (8,false)⟩,
   ⟨some 13,.cmp .geq (.tmp 10) (.tmp 12),some (8,false)⟩,
   ⟨some 14,.pick (.tmp 8) (.cst (.d (.bool true))) (.tmp 13),none⟩,
   ⟨some 15,.mov (.tmp 14),none⟩,
   ⟨some 16,.fad 1 (.tmp 2),some (15,false)⟩,
   ⟨some 17,.ld false 1 (.tmp 16),some (15,false)⟩,
   ⟨some 18,.mov (.tmp 1),some (15,false)⟩,
   ⟨some 19,.cmp .gtr (.tmp 17) (.tmp 18),some (15,false)⟩,
   ⟨some 20,.pick (.tmp 15) (.cst (.d (.bool true))) (.tmp 19),none⟩,
   ⟨some 21,.call 22 [(.tmp 20),(.cst (.d (.int .i64 14)))],none⟩,
   ⟨some 4,.mov (.tmp 21),none⟩])
  .ret))⟩
def jr101:AFun:=⟨5,0,[.tmp 2],
 (.seq
 (.reg [] [⟨some 2,.mov (.cst (.d (.int .i64 0))),none⟩])
 (.seq
  (.reg [] [⟨some 3,.mov (.tmp 0),none⟩,
   ⟨some 4,.call 122 [(.tmp 3),(.cst (.d (.int .i64 0))),(.cst (.d (.int .i64 100000)))],none⟩,
   ⟨some 2,.mov (.tmp 4),none⟩])
  .ret))⟩
def jr21:AFun:=⟨5,0,[.tmp 2],
 (.seq
 (.reg [] [⟨some 2,.mov (.cst (.d (.int .i64 0))),none⟩])
 (.seq
  (.reg [] [⟨some 3,.mov (.tmp 0),none⟩,
   ⟨some 4,.call 112 [(.tmp 3),(.cst (.d (.int .i64 0))),(.cst (.d (.int .i64 100000)))],none⟩,
   ⟨some 2,.mov (.tmp 4),none⟩])
  .ret))⟩
def jr95:AFun:=⟨16,0,[.tmp 2],
 (.seq
 (.reg [] [⟨some 2,.mov (.cst (.d (.bool false))),none⟩])
 (.seq
  (.seq
  (.reg [] [⟨some 3,.mov (.cst (.d (.int .i64 0))),none⟩])
  (.post [] []
   (.block 0
   (.keep [0,3] []
    (.loop
    (.post [0,3] []
     (.seq
     (.seq
      (.reg [] [⟨some 4,.mov (.tmp 3),none⟩,
       ⟨some 5,.mov (.tmp 0),none⟩,
       ⟨some 6,.len (.tmp 5),none⟩,
       ⟨some 7,.cmp .lss (.tmp 4) (.tmp 6),none⟩])
      (.cond (.tmp 7)
      .skip
      (.exit 0)))
     (.seq
      (.block 1
      (.seq
       (.reg [] [⟨some 10,.mov (.tmp 0),none⟩,
        ⟨some 11,.mov (.tmp 3),none⟩,
        ⟨some 12,.ixa 1 (.tmp 10) (.tmp 11),none⟩,
        ⟨some 13,.ld false 1 (.tmp 12),none⟩,
        ⟨some 14,.lens (.tmp 13),none⟩,
        ⟨some 15,.cmp .gtr (.tmp 14) (.cst (.d (.int .i64 40))),none⟩])
       (.cond (.tmp 15)
       (.seq
        (.reg [] [⟨some 2,.mov (.cst (.d (.bool false))),none⟩])
        .ret)
       .skip)))
      (.reg [] [⟨some 8,.mov (.tmp 3),none⟩,
       ⟨some 9,.arith .add .i64 (.tmp 8) (.cst (.d (.int .i64 1))),none⟩,
       ⟨some 3,.mov (.tmp 9),none⟩])))))))))
  (.seq
  (.reg [] [⟨some 2,.mov (.cst (.d (.bool true))),none⟩])
  .ret)))⟩
theorem c163 (x:Ob) (n:List UInt8):CallDet Tryz.prog 163 [.d (.agg [.str x.1,.str x.2]),.cp [.str n] 0] [.bool (x.1==n)]:=by
 refine call_of_vc (x:=jr163) (by kernel_rfl) rfl ?_
 exact rfl
theorem c162 (l:List Ob) (n:List UInt8) (hl:l.length≤1048576):CallDet Tryz.prog 162 [.d (.slice 2 (obs l)),.d (.fn (.func 163) [.agg [.str n]])] [.int .i64 (ixF (fun x=>x.1==n) l 0)]:=by
 have hlen:=obs_len l
 refine call_of_vc (x:=jr162) (by kernel_rfl) rfl ?_
 rotate_left
 refine loop_st (fun k:Nat=>⟨[(0,.d (.slice 2 (obs l))),(1,.d (.fn (.func 163) [.agg [.str n]])),(7,.d (.int .i64 (((obs l).length:Nat):Int))),(8,.d (.int .i64 (k:Nat)))],[]⟩) (fun k=>k≤l.length∧ixF (fun x=>x.1==n) l 0=ixF (fun x=>x.1==n) (l.drop k) (k:Int)) (fun k=>l.length - k) 0 rfl ⟨Nat.zero_le _,rfl⟩ ?_
 rintro k ⟨hk,hi⟩
 have hk:k≤l.length:=hk
 dsimp only
 by_cases hkn:k < l.length
 ·refine Exists.elim (get_lt l hkn) fun x hx=>?_
  have hx1:=obs_at hx
  rw [drop_at hx,ixF] at hi
  have c163_:=c163 x n
  cases e:(x.1==n) with
  | true =>
   rw [e] at c163_ hi
   have hi:ixF (fun x=>x.1==n) l 0=(k:Int):=hi
   rw [hi]
   refine sd ?_
   refine b_lt (fun t1=>?_) (fun t1=>?_)
   refine ix_at hx1 ?_ ?_
   (show (0:Int)≤(↑k:Int); omega)
   refine ca c163_ ?_
   exact rfl
   (exfalso; omega)
  | false =>
   rw [e] at c163_ hi
   have hi:ixF (fun x=>x.1==n) l 0=ixF (fun x=>x.1==n) (l.drop (k+1)) ((k:Int)+1):=hi
   have fin:∃ a':Nat,((a'≤l.length∧ixF (fun x=>x.1==n) l 0=ixF (fun x=>x.1==n) (l.drop a') (a':Int))∧l.length - a' < l.length - k)∧(⟨[(0,.d (.slice 2 (obs l))),(1,.d (.fn (.func 163) [.agg [.str n]])),(7,.d (.int .i64 (((obs l).length:Nat):Int))),(8,.d (.int .i64 ((k:Int)+1)))],[]⟩:St)=⟨[(0,.d (.slice 2 (obs l))),(1,.d (.fn (.func 163) [.agg [.str n]])),(7,.d (.int .i64 (((obs l).length:Nat):Int))),(8,.d (.int .i64 (a':Nat)))],[]⟩:=⟨k+1,⟨⟨by omega,hi⟩,by omega⟩,rfl⟩
   refine sd ?_
   refine b_lt (fun t1=>?_) (fun t1=>?_)
   refine ix_at hx1 ?_ ?_
   (show (0:Int)≤(↑k:Int); omega)
   refine ca c163_ ?_
   refine ar_add ?_ ?_
   refine an ?_ ?_
   (show (-9223372036854775808:Int)≤(↑k:Int)+(1:Int); omega)
   (show (↑k:Int)+(1:Int)≤(9223372036854775807:Int); omega)
   rotate_left
   (exfalso; omega)
   all_goals exact fin
 ·have e:k=l.length:=by omega
  subst e
  rw [List.drop_eq_nil_of_le (Nat.le_refl _)] at hi
  have hi:ixF (fun x=>x.1==n) l 0=-1:=hi
  rw [hi]
  refine sd ?_
  refine b_lt (fun t1=>?_) (fun t1=>?_)
  (exfalso; omega)
  exact rfl
theorem c107 (l:List Ob) (G:List Gr) (n:List UInt8) (hl:l.length≤1048576):CallDet Tryz.prog 107 [.d (.agg [.slice 2 (obs l),.slice 6 (grs G)]),.d (.str n)] [.str ((ownO l n).getD []),.bool (ownO l n).isSome]:=by
 have hlen:=obs_len l
 have c162_:=c162 l n hl
 rcases ownO_ix n l 0 (Int.le_refl _) with ⟨h1,h2⟩ | ⟨j,x,h1,h2,h3⟩
 ·rw [h1] at c162_
  rw [h2]
  refine call_of_vc (x:=jr107) (by kernel_rfl) rfl ?_
  refine ca c162_ ?_
  refine sd ?_
  exact rfl
 ·have hx1:=obs_at h2
  rw [h1,Int.zero_add] at c162_
  rw [h3]
  refine call_of_vc (x:=jr107) (by kernel_rfl) rfl ?_
  refine ca c162_ ?_
  refine sd ?_
  refine ix_at hx1 ?_ ?_
  (show (0:Int)≤(↑j:Int); omega)
  exact rfl
theorem c109 (l:List Ob) (n:List UInt8) (hl:l.length≤1048576):CallDet Tryz.prog 109 [.d (.slice 2 (obs l)),.d (.str n)] [.str ((ownO l n).getD []),.bool (ownO l n).isSome]:=by
 have hlen:=obs_len l
 refine call_of_vc (x:=jr109) (by kernel_rfl) rfl ?_
 rotate_left
 refine loop_st (fun k:Nat=>⟨[(0,.d (.slice 2 (obs l))),(1,.d (.str n)),(6,.d (.int .i64 (k:Nat)))],[]⟩) (fun k=>k≤l.length∧ownO l n=ownO (l.drop k) n) (fun k=>l.length - k) 0 rfl ⟨Nat.zero_le _,rfl⟩ ?_
 rintro k ⟨hk,hi⟩
 have hk:k≤l.length:=hk
 dsimp only
 by_cases hkn:k < l.length
 ·refine Exists.elim (get_lt l hkn) fun x hx=>?_
  have hx1:=obs_at hx
  rw [drop_at hx,ownO] at hi
  cases e:(x.1==n) with
  | true =>
   rw [e] at hi
   have hi:ownO l n=some x.2:=hi
   rw [hi]
   refine sd ?_
   refine b_lt (fun t1=>?_) (fun t1=>?_)
   refine ix_at hx1 ?_ ?_
   (show (0:Int)≤(↑k:Int); omega)
   refine b_t e ?_
   refine ix_at hx1 ?_ ?_
   (show (0:Int)≤(↑k:Int); omega)
   exact rfl
   (exfalso; omega)
  | false =>
   rw [e] at hi
   have hi:ownO l n=ownO (l.drop (k+1)) n:=hi
   have fin:∃ a':Nat,((a'≤l.length∧ownO l n=ownO (l.drop a') n)∧l.length - a' < l.length - k)∧(⟨[(0,.d (.slice 2 (obs l))),(1,.d (.str n)),(6,.d (.int .i64 ((k:Int)+1)))],[]⟩:St)=⟨[(0,.d (.slice 2 (obs l))),(1,.d (.str n)),(6,.d (.int .i64 (a':Nat)))],[]⟩:=⟨k+1,⟨⟨by omega,hi⟩,by omega⟩,rfl⟩
   refine sd ?_
   refine b_lt (fun t1=>?_) (fun t1=>?_)
   refine ix_at hx1 ?_ ?_
   (show (0:Int)≤(↑k:Int); omega)
   refine b_f e ?_
   refine ar_add ?_ ?_
   refine an ?_ ?_
   (show (-9223372036854775808:Int)≤(↑k:Int)+(1:Int); omega)
   (show (↑k:Int)+(1:Int)≤(9223372036854775807:Int); omega)
   rotate_left
   (exfalso; omega)
   all_goals exact fin
 ·have e:k=l.length:=by omega
  subst e
  rw [List.drop_eq_nil_of_le (Nat.le_refl _)] at hi
  have hi:ownO l n=none:=hi
  rw [hi]
  refine sd ?_
  refine b_lt (fun t1=>?_) (fun t1=>?_)
  (exfalso; omega)
  exact rfl
theorem c108 (l:List Ob) (G:List Gr) (g:Gr) (ri ob:List UInt8) (day:Int):CallDet Tryz.prog 108 [.d (.agg [.slice 2 (obs l),.slice 6 (grs G),.str ri,.str ob]),.d (.agg [.str g.fr,.str g.to,.str g.ri,.str g.ob,.int .i64 g.a,.int .i64 g.b]),.d (.int .i64 day)] [.bool (holdB ri ob day g)]:=by
 refine call_of_vc (x:=jr108) (by kernel_rfl) rfl ?_
 refine ca (Exists.intro _ (And.intro rfl rfl)) ?_
 refine b_intro (fun t1=>?_) (fun t1=>?_)
 replace t1:(Gr.fr g==Gr.fr g&&(Gr.to g==Gr.to g&&(Gr.ri g==ri&&(Gr.ob g==ob&&(Gr.a g==Gr.a g&&(Gr.b g==Gr.b g&&true))))))=true:=t1
 refine sd ?_
 refine b_le (fun t2=>?_) (fun t2=>?_)
 refine sd ?_
 rotate_left
 refine sd ?_
 rotate_left
 replace t1:(Gr.fr g==Gr.fr g&&(Gr.to g==Gr.to g&&(Gr.ri g==ri&&(Gr.ob g==ob&&(Gr.a g==Gr.a g&&(Gr.b g==Gr.b g&&true))))))=false:=t1
 refine sd ?_
 refine sd ?_
 rotate_left
 all_goals refine congrArg (fun b:Bool=>resV [.bool b]) ?_
 all_goals unfold holdB
 all_goals first | (simp_all [cmpF]; done) | (simp_all [cmpF]; omega) | (simp_all [cmpF]; intros; omega)
theorem c93 (a b m:Int):CallDet Tryz.prog 93 [.d (.agg [.int .i64 a,.int .i64 b]),.d (.int .i64 m)] [.int .i64 (spanE a b m)]:=by
 refine call_of_vc (x:=jr93) (by kernel_rfl) rfl ?_
 refine sd ?_
 refine b_lt (fun t1=>?_) (fun t1=>?_)
 refine sd ?_
 refine sd ?_
 refine ca (c22 _ _) ?_
 rotate_left
 refine sd ?_
 refine b_le (fun t2=>?_) (fun t2=>?_)
 refine sd ?_
 refine ca (c22 _ _) ?_
 rotate_left
 refine sd ?_
 refine ca (c22 _ _) ?_
 rotate_left
 all_goals refine congrArg (fun b:Int=>resV [.int .i64 b]) ?_
 all_goals unfold spanE
 all_goals first | (simp_all [cmpF]; done) | (rw [decide_eq_false (show ¬ a < 0 by omega),decide_eq_false (show ¬ b≤a by omega)]; rfl)
theorem c101 (n:Int):CallDet Tryz.prog 101 [.d (.int .i64 n)] [.int .i64 (within3 n 0 100000)]:=by
 refine call_of_vc (x:=jr101) (by kernel_rfl) rfl ?_
 refine ca (c122 _ _ _) ?_
 exact rfl
theorem c21 (n:Int):CallDet Tryz.prog 21 [.d (.int .i64 n)] [.int .i64 (within3 n 0 100000)]:=by
 refine call_of_vc (x:=jr21) (by kernel_rfl) rfl ?_
 refine ca (c112 _ _ _) ?_
 exact rfl
theorem c95 (l:List (List UInt8)) (hl:l.length≤1048576):CallDet Tryz.prog 95 [.d (.slice 1 (strs l))] [.bool (shortW l)]:=by
 have hlen:(strs l).length=l.length:=List.length_map _
 refine call_of_vc (x:=jr95) (by kernel_rfl) rfl ?_
 rotate_left
 refine loop_st (fun k:Nat=>⟨[(0,.d (.slice 1 (strs l))),(3,.d (.int .i64 (k:Nat)))],[]⟩) (fun k=>k≤l.length∧shortW l=shortW (l.drop k)) (fun k=>l.length - k) 0 rfl ⟨Nat.zero_le _,rfl⟩ ?_
 rintro k ⟨hk,hi⟩
 have hk:k≤l.length:=hk
 dsimp only
 by_cases hkn:k < l.length
 ·refine Exists.elim (get_lt l hkn) fun x hx=>?_
  have hx1:(strs l)[((k:Nat):Int).toNat]?=some (.str x):=by
   show (l.map _)[k]?=_
   rw [List.getElem?_map,hx]; rfl
  rw [drop_at hx] at hi
  have hi:shortW l=(decide ((x.length:Int)≤40)&&shortW (l.drop (k+1))):=hi
  by_cases hc:(x.length:Int)≤40
  ·rw [decide_eq_true hc,Bool.true_and] at hi
   have fin:∃ a':Nat,((a'≤l.length∧shortW l=shortW (l.drop a'))∧l.length - a' < l.length - k)∧(⟨[(0,.d (.slice 1 (strs l))),(3,.d (.int .i64 ((k:Int)+1)))],[]⟩:St)=⟨[(0,.d (.slice 1 (strs l))),(3,.d (.int .i64 (a':Nat)))],[]⟩:=⟨k+1,⟨⟨by omega,hi⟩,by omega⟩,rfl⟩
   refine sd ?_
   refine b_lt (fun t1=>?_) (fun t1=>?_)
   refine ix_at hx1 ?_ ?_
   (show (0:Int)≤(↑k:Int); omega)
   refine sd ?_
   refine b_lt (fun t2=>?_) (fun t2=>?_)
   (exfalso; omega)
   refine ar_add ?_ ?_
   refine an ?_ ?_
   (show (-9223372036854775808:Int)≤(↑k:Int)+(1:Int); omega)
   (show (↑k:Int)+(1:Int)≤(9223372036854775807:Int); omega)
   rotate_left
   (exfalso; omega)
   all_goals exact fin
  ·rw [decide_eq_false hc,Bool.false_and] at hi
   rw [hi]
   refine sd ?_
   refine b_lt (fun t1=>?_) (fun t1=>?_)
   refine ix_at hx1 ?_ ?_
   (show (0:Int)≤(↑k:Int); omega)
   refine sd ?_
   refine b_lt (fun t2=>?_) (fun t2=>?_)
   exact rfl
   (exfalso; omega)
   (exfalso; omega)
 ·have e:k=l.length:=by omega
  subst e
  rw [List.drop_eq_nil_of_le (Nat.le_refl _)] at hi
  have hi:shortW l=true:=hi
  rw [hi]
  refine sd ?_
  refine b_lt (fun t1=>?_) (fun t1=>?_)
  (exfalso; omega)
  exact rfl
end Vc
