import Derived.Test.YtmffgalmdnpcgaaGreatDoorG16
set_option linter.unusedSectionVars false
set_option linter.unusedVariables false
set_option linter.unusedSimpArgs false
set_option maxRecDepth 10000
set_option maxHeartbeats 4000000
namespace Vc
open Go Go.Proofs
theorem seaE_cut (n:Int) (x:Sea) (k:Int) (p:Sea):seaE n x k p=bif within3 x.f 0 363 != 0 then within3 x.f 0 363 else bif (wk x).any (badN n) then 10 else ascE k x.f p.f:=by
 show (bif within3 x.f 0 363 != 0 then within3 x.f 0 363 else bif (bif (wk x).any (badN n) then (10:Int) else 0) != 0 then (bif (wk x).any (badN n) then (10:Int) else 0) else firstOf [ascE k x.f p.f])=_
 rw [first_one]
 cases (wk x).any (badN n) <;> rfl
def jr108:AFun:=⟨63,0,[.tmp 6],
 (.seq
 (.reg [] [⟨some 6,.mov (.cst (.d (.int .i64 0))),none⟩])
 (.seq
  (.seq
  (.reg [] [⟨some 9,.mov (.tmp 0),none⟩,
   ⟨some 10,.mov (.tmp 1),none⟩,
   ⟨some 11,.ixa 8 (.tmp 9) (.tmp 10),none⟩,
   ⟨some 12,.fad 0 (.tmp 11),none⟩,
   ⟨some 13,.ld false 1 (.tmp 12),none⟩,
   ⟨some 14,.call 70 [(.tmp 13),(.cst (.d (.int .i64 0))),(.cst (.d (.int .i64 363)))],none⟩,
   ⟨some 7,.mov (.tmp 14),none⟩])
  (.seq
   (.reg [] [⟨some 15,.mov (.tmp 7),none⟩,
    ⟨some 16,.cmp .neq (.tmp 15) (.cst (.d (.int .i64 0))),none⟩])
   (.cond (.tmp 16)
   (.seq
    (.reg [] [⟨some 17,.mov (.tmp 7),none⟩,
     ⟨some 6,.mov (.tmp 17),none⟩])
    .ret)
   .skip)))
  (.seq
  (.seq
   (.reg [] [⟨some 8,.mov (.cst (.d (.int .i64 0))),none⟩])
   (.post [0,1] []
   (.block 0
    (.keep [0,1,2,8] []
    (.loop
     (.post [0,1,2,8] []
     (.seq
      (.seq
      (.reg [] [⟨some 18,.mov (.tmp 8),none⟩,
       ⟨some 19,.cmp .lss (.tmp 18) (.cst (.d (.int .i64 7))),none⟩])
      (.cond (.tmp 19)
       .skip
       (.exit 0)))
      (.seq
      (.block 1
       (.seq
       (.reg [] [⟨some 22,.mov (.tmp 0),none⟩,
        ⟨some 23,.mov (.tmp 1),none⟩,
        ⟨some 24,.mov (.tmp 8),none⟩,
        ⟨some 25,.ixa 8 (.tmp 22) (.tmp 23),none⟩,
        ⟨some 26,.fad 1 (.tmp 25),none⟩,
        ⟨some 27,.ixp 7 1 (.tmp 26) (.tmp 24),none⟩,
        ⟨some 28,.ld false 1 (.tmp 27),none⟩,
        ⟨some 29,.cmp .lss (.tmp 28) (.cst (.d (.int .i64 0))),none⟩,
        ⟨some 30,.mov (.tmp 29),none⟩,
        ⟨some 31,.mov (.tmp 0),some (30,false)⟩,
        ⟨some 32,.mov (.tmp 1),some (30,false)⟩,
        ⟨some 33,.mov (.tmp 8),some (30,false)⟩,
        ⟨some 34,.ixa 8 (.tmp 31) (.tmp 32),some (30,false)⟩,
        ⟨some 35,.fad 1 (.tmp 34),some (30,false)⟩,
        ⟨some 36,.ixp 7 1 (.tmp 35) (.tmp 33),some (30,false)⟩,
        ⟨some 37,.ld false 1 (.tmp 36),some (30,false)⟩,
        ⟨some 38,.mov (.tmp 2),some (30,false)⟩,
        ⟨some 39,.cmp .geq (.tmp 37) (.tmp 38),some (30,false)⟩,
        ⟨some 40,.pick (.tmp 30) (.cst (.d (.bool true))) (.tmp 39),none⟩])
       (.cond (.tmp 40)
        (.seq
        (.reg [] [⟨some 6,.mov (.cst (.d (.int .i64 10))),none⟩])
        .ret)
        .skip)))
      (.reg [] [⟨some 20,.mov (.tmp 8),none⟩,
       ⟨some 21,.arith .add .i64 (.tmp 20) (.cst (.d (.int .i64 1))),none⟩,
       ⟨some 8,.mov (.tmp 21),none⟩])))))))))
  (.seq
   (.seq
   (.reg [] [⟨some 41,.mov (.tmp 1),none⟩,
    ⟨some 42,.cmp .eql (.tmp 41) (.cst (.d (.int .i64 0))),none⟩])
   (.cond (.tmp 42)
    (.seq
    (.reg [] [⟨some 43,.mov (.tmp 0),none⟩,
     ⟨some 44,.mov (.tmp 1),none⟩,
     ⟨some 45,.ixa 8 (.tmp 43) (.tmp 44),none⟩,
     ⟨some 46,.fad 0 (.tmp 45),none⟩,
     ⟨some 47,.ld false 1 (.tmp 46),none⟩,
     ⟨some 48,.cmp .neq (.tmp 47) (.cst (.d (.int .i64 0))),none⟩,
     ⟨some 49,.call 27 [(.tmp 48),(.cst (.d (.int .i64 11)))],none⟩,
     ⟨some 6,.mov (.tmp 49),none⟩])
    .ret)
    .skip))
   (.seq
   (.regd [] [⟨some 50,.mov (.tmp 0),none⟩,
    ⟨some 51,.mov (.tmp 1),none⟩,
    ⟨some 52,.ixa 8 (.tmp 50) (.tmp 51),none⟩,
    ⟨some 53,.fad 0 (.tmp 52),none⟩,
    ⟨some 54,.ld false 1 (.tmp 53),none⟩,
    ⟨some 55,.mov (.tmp 0),none⟩,
    ⟨some 56,.mov (.tmp 1),none⟩,
    ⟨some 57,.arith .sub .i64 (.tmp 56) (.cst (.d (.int .i64 1))),none⟩,
    ⟨some 58,.ixa 8 (.tmp 55) (.tmp 57),none⟩,
    ⟨some 59,.fad 0 (.tmp 58),none⟩,
    ⟨some 60,.ld false 1 (.tmp 59),none⟩,
    ⟨some 61,.cmp .leq (.tmp 54) (.tmp 60),none⟩,
    ⟨some 62,.call 27 [(.tmp 61),(.cst (.d (.int .i64 11)))],none⟩,
    ⟨some 6,.mov (.tmp 62),none⟩] [(0,1),(0,5),(1,5),(2,5),(3,5),(4,5),(0,6),(1,6),(2,6),(3,6),(4,6),(5,6),(0,7),(1,7),(2,7),(3,7),(4,7),(5,7),(0,8),(1,8),(2,8),(3,8),(4,8),(0,9),(1,9),(2,9),(3,9),(4,9),(0,10),(1,10),(2,10),(3,10),(4,10)])
   .ret)))))⟩
theorem c108 (l:List Sea) (hl:l.length≤1048576) (n:Int) {k:Nat} {x p:Sea} (hx:l[k]?=some x) (hp:l[k - 1]?=some p):CallDet Tryz.prog 108 [.d (.slice 8 (seas l)),.d (.int .i64 (k:Int)),.d (.int .i64 n)] [.int .i64 (seaE n x k p)]:=by
 have hkn:k < l.length:=(List.getElem?_eq_some_iff.1 hx).1
 have hx1:=seas_at hx
 have hp3:l[((k:Int) - 1).toNat]?=some p:=by rw [← hp]; congr 1; omega
 have hp1:(seas l)[((k:Int) - 1).toNat]?=some (.agg [.int .i64 p.f,.int .i64 p.a,.int .i64 p.b,.int .i64 p.c,.int .i64 p.d,.int .i64 p.e,.int .i64 p.g,.int .i64 p.h]):=by unfold seas; rw [List.getElem?_map,hp3]; rfl
 have c70_:=c70 x.f 0 363
 have hv:=seaE_cut n x k p
 refine call_of_vc (x:=jr108) (by kernel_rfl) rfl ?_
 refine ix_at hx1 ?_ ?_
 (show (0:Int)≤(↑k:Int); omega)
 refine ca c70_ ?_
 refine sd ?_
 refine b_ne (fun t1=>?_) (fun t1=>?_)
 rotate_left
 rotate_left
 ·exact res_c (by rw [hv,bne_t t1]; rfl)
 rw [t1] at hv
 have ten:(wk x).any (badN n)=true→resV [.int .i64 10]=resV [.int .i64 (seaE n x k p)]:=fun h=>res_c (by rw [hv,h]; rfl)
 refine loop_st (fun j:Nat=>⟨[(0,.d (.slice 8 (seas l))),(1,.d (.int .i64 (k:Int))),(2,.d (.int .i64 n)),(8,.d (.int .i64 (j:Int)))],[]⟩) (fun j=>j≤7∧(wk x).any (badN n)=((wk x).drop j).any (badN n)) (fun j=>7 - j) 0 rfl ⟨Nat.zero_le _,rfl⟩ ?_
 rintro j ⟨hj,hI⟩
 dsimp only
 match j,hj,hI with
 | 0,hj,hI =>
  have hb:badN n x.a=true→(wk x).any (badN n)=true:=fun h=>by rw [hI]; show (badN n x.a||_)=true; rw [h]; rfl
  have hg:badN n x.a=false→(wk x).any (badN n)=((wk x).drop 1).any (badN n):=fun h=>by rw [hI]; show (badN n x.a||_)=_; rw [h]; rfl
  have fin:badN n x.a=false→∃ a':Nat,((a'≤7∧(wk x).any (badN n)=((wk x).drop a').any (badN n))∧7 - a' < 7 - 0)∧(⟨[(0,.d (.slice 8 (seas l))),(1,.d (.int .i64 (k:Int))),(2,.d (.int .i64 n)),(8,.d (.int .i64 1))],[]⟩:St)=⟨[(0,.d (.slice 8 (seas l))),(1,.d (.int .i64 (k:Int))),(2,.d (.int .i64 n)),(8,.d (.int .i64 (a':Int)))],[]⟩:=fun h=>⟨1,⟨⟨by omega,hg h⟩,by omega⟩,rfl⟩
  refine sd ?_
  refine ix_at hx1 ?_ ?_
  (show (0:Int)≤(↑k:Int); omega)
  refine an ?_ ?_
  refine an ?_ ?_
  (show (0:Int)≤(↑(0:Nat):Int); omega)
  (show (↑(0:Nat):Int) < (↑(7:Nat):Int); omega)
  refine sd ?_
  refine b_lt (fun t2=>?_) (fun t2=>?_)
  refine sd ?_
  rotate_left
  refine ix_at hx1 ?_ ?_
  (show (0:Int)≤(↑k:Int); omega)
  refine an ?_ ?_
  refine an ?_ ?_
  (show (0:Int)≤(↑(0:Nat):Int); omega)
  (show (↑(0:Nat):Int) < (↑(7:Nat):Int); omega)
  refine sd ?_
  refine b_le (fun t3=>?_) (fun t3=>?_)
  rotate_left
  refine ar_add ?_ ?_
  refine an ?_ ?_
  (show (-9223372036854775808:Int)≤(↑(0:Nat):Int)+(1:Int); omega)
  (show (↑(0:Nat):Int)+(1:Int)≤(9223372036854775807:Int); omega)
  rotate_left
  ·exact ten (hb (by unfold badN; rw [decide_eq_true t2]; rfl))
  ·exact ten (hb (by unfold badN; rw [decide_eq_true t3]; simp))
  ·exact fin (by unfold badN; rw [decide_eq_false t2,decide_eq_false t3]; rfl)
 | 1,hj,hI =>
  have hb:badN n x.b=true→(wk x).any (badN n)=true:=fun h=>by rw [hI]; show (badN n x.b||_)=true; rw [h]; rfl
  have hg:badN n x.b=false→(wk x).any (badN n)=((wk x).drop 2).any (badN n):=fun h=>by rw [hI]; show (badN n x.b||_)=_; rw [h]; rfl
  have fin:badN n x.b=false→∃ a':Nat,((a'≤7∧(wk x).any (badN n)=((wk x).drop a').any (badN n))∧7 - a' < 7 - 1)∧(⟨[(0,.d (.slice 8 (seas l))),(1,.d (.int .i64 (k:Int))),(2,.d (.int .i64 n)),(8,.d (.int .i64 2))],[]⟩:St)=⟨[(0,.d (.slice 8 (seas l))),(1,.d (.int .i64 (k:Int))),(2,.d (.int .i64 n)),(8,.d (.int .i64 (a':Int)))],[]⟩:=fun h=>⟨2,⟨⟨by omega,hg h⟩,by omega⟩,rfl⟩
  refine sd ?_
  refine ix_at hx1 ?_ ?_
  (show (0:Int)≤(↑k:Int); omega)
  refine an ?_ ?_
  refine an ?_ ?_
  (show (0:Int)≤(↑(1:Nat):Int); omega)
  (show (↑(1:Nat):Int) < (↑(7:Nat):Int); omega)
  refine sd ?_
  refine b_lt (fun t2=>?_) (fun t2=>?_)
  refine sd ?_
  rotate_left
  refine ix_at hx1 ?_ ?_
  (show (0:Int)≤(↑k:Int); omega)
  refine an ?_ ?_
  refine an ?_ ?_
  (show (0:Int)≤(↑(1:Nat):Int); omega)
  (show (↑(1:Nat):Int) < (↑(7:Nat):Int); omega)
  refine sd ?_
  refine b_le (fun t3=>?_) (fun t3=>?_)
  rotate_left
  refine ar_add ?_ ?_
  refine an ?_ ?_
  (show (-9223372036854775808:Int)≤(↑(1:Nat):Int)+(1:Int); omega)
  (show (↑(1:Nat):Int)+(1:Int)≤(9223372036854775807:Int); omega)
  rotate_left
  ·exact ten (hb (by unfold badN; rw [decide_eq_true t2]; rfl))
  ·exact ten (hb (by unfold badN; rw [decide_eq_true t3]; simp))
  ·exact fin (by unfold badN; rw [decide_eq_false t2,decide_eq_false t3]; rfl)
 | 2,hj,hI =>
  have hb:badN n x.c=true→(wk x).any (badN n)=true:=fun h=>by rw [hI]; show (badN n x.c||_)=true; rw [h]; rfl
  have hg:badN n x.c=false→(wk x).any (badN n)=((wk x).drop 3).any (badN n):=fun h=>by rw [hI]; show (badN n x.c||_)=_; rw [h]; rfl
  have fin:badN n x.c=false→∃ a':Nat,((a'≤7∧(wk x).any (badN n)=((wk x).drop a').any (badN n))∧7 - a' < 7 - 2)∧(⟨[(0,.d (.slice 8 (seas l))),(1,.d (.int .i64 (k:Int))),(2,.d (.int .i64 n)),(8,.d (.int .i64 3))],[]⟩:St)=⟨[(0,.d (.slice 8 (seas l))),(1,.d (.int .i64 (k:Int))),(2,.d (.int .i64 n)),(8,.d (.int .i64 (a':Int)))],[]⟩:=fun h=>⟨3,⟨⟨by omega,hg h⟩,by omega⟩,rfl⟩
  refine sd ?_
  refine ix_at hx1 ?_ ?_
  (show (0:Int)≤(↑k:Int); omega)
  refine an ?_ ?_
  refine an ?_ ?_
  (show (0:Int)≤(↑(2:Nat):Int); omega)
  (show (↑(2:Nat):Int) < (↑(7:Nat):Int); omega)
  refine sd ?_
  refine b_lt (fun t2=>?_) (fun t2=>?_)
  refine sd ?_
  rotate_left
  refine ix_at hx1 ?_ ?_
  (show (0:Int)≤(↑k:Int); omega)
  refine an ?_ ?_
  refine an ?_ ?_
  (show (0:Int)≤(↑(2:Nat):Int); omega)
  (show (↑(2:Nat):Int) < (↑(7:Nat):Int); omega)
  refine sd ?_
  refine b_le (fun t3=>?_) (fun t3=>?_)
  rotate_left
  refine ar_add ?_ ?_
  refine an ?_ ?_
  (show (-9223372036854775808:Int)≤(↑(2:Nat):Int)+(1:Int); omega)
  (show (↑(2:Nat):Int)+(1:Int)≤(9223372036854775807:Int); omega)
  rotate_left
  ·exact ten (hb (by unfold badN; rw [decide_eq_true t2]; rfl))
  ·exact ten (hb (by unfold badN; rw [decide_eq_true t3]; simp))
  ·exact fin (by unfold badN; rw [decide_eq_false t2,decide_eq_false t3]; rfl)
 | 3,hj,hI =>
  have hb:badN n x.d=true→(wk x).any (badN n)=true:=fun h=>by rw [hI]; show (badN n x.d||_)=true; rw [h]; rfl
  have hg:badN n x.d=false→(wk x).any (badN n)=((wk x).drop 4).any (badN n):=fun h=>by rw [hI]; show (badN n x.d||_)=_; rw [h]; rfl
  have fin:badN n x.d=false→∃ a':Nat,((a'≤7∧(wk x).any (badN n)=((wk x).drop a').any (badN n))∧7 - a' < 7 - 3)∧(⟨[(0,.d (.slice 8 (seas l))),(1,.d (.int .i64 (k:Int))),(2,.d (.int .i64 n)),(8,.d (.int .i64 4))],[]⟩:St)=⟨[(0,.d (.slice 8 (seas l))),(1,.d (.int .i64 (k:Int))),(2,.d (.int .i64 n)),(8,.d (.int .i64 (a':Int)))],[]⟩:=fun h=>⟨4,⟨⟨by omega,hg h⟩,by omega⟩,rfl⟩
  refine sd ?_
  refine ix_at hx1 ?_ ?_
  (show (0:Int)≤(↑k:Int); omega)
  refine an ?_ ?_
  refine an ?_ ?_
  (show (0:Int)≤(↑(3:Nat):Int); omega)
  (show (↑(3:Nat):Int) < (↑(7:Nat):Int); omega)
  refine sd ?_
  refine b_lt (fun t2=>?_) (fun t2=>?_)
  refine sd ?_
  rotate_left
  refine ix_at hx1 ?_ ?_
  (show (0:Int)≤(↑k:Int); omega)
  refine an ?_ ?_
  refine an ?_ ?_
  (show (0:Int)≤(↑(3:Nat):Int); omega)
  (show (↑(3:Nat):Int) < (↑(7:Nat):Int); omega)
  refine sd ?_
  refine b_le (fun t3=>?_) (fun t3=>?_)
  rotate_left
  refine ar_add ?_ ?_
  refine an ?_ ?_
  (show (-9223372036854775808:Int)≤(↑(3:Nat):Int)+(1:Int); omega)
  (show (↑(3:Nat):Int)+(1:Int)≤(9223372036854775807:Int); omega)
  rotate_left
  ·exact ten (hb (by unfold badN; rw [decide_eq_true t2]; rfl))
  ·exact ten (hb (by unfold badN; rw [decide_eq_true t3]; simp))
  ·exact fin (by unfold badN; rw [decide_eq_false t2,decide_eq_false t3]; rfl)
 | 4,hj,hI =>
  have hb:badN n x.e=true→(wk x).any (badN n)=true:=fun h=>by rw [hI]; show (badN n x.e||_)=true; rw [h]; rfl
  have hg:badN n x.e=false→(wk x).any (badN n)=((wk x).drop 5).any (badN n):=fun h=>by rw [hI]; show (badN n x.e||_)=_; rw [h]; rfl
  have fin:badN n x.e=false→∃ a':Nat,((a'≤7∧(wk x).any (badN n)=((wk x).drop a').any (badN n))∧7 - a' < 7 - 4)∧(⟨[(0,.d (.slice 8 (seas l))),(1,.d (.int .i64 (k:Int))),(2,.d (.int .i64 n)),(8,.d (.int .i64 5))],[]⟩:St)=⟨[(0,.d (.slice 8 (seas l))),(1,.d (.int .i64 (k:Int))),(2,.d (.int .i64 n)),(8,.d (.int .i64 (a':Int)))],[]⟩:=fun h=>⟨5,⟨⟨by omega,hg h⟩,by omega⟩,rfl⟩
  refine sd ?_
  refine ix_at hx1 ?_ ?_
  (show (0:Int)≤(↑k:Int); omega)
  refine an ?_ ?_
  refine an ?_ ?_
  (show (0:Int)≤(↑(4:Nat):Int); omega)
  (show (↑(4:Nat):Int) < (↑(7:Nat):Int); omega)
  refine sd ?_
  refine b_lt (fun t2=>?_) (fun t2=>?_)
  refine sd ?_
  rotate_left
  refine ix_at hx1 ?_ ?_
  (show (0:Int)≤(↑k:Int); omega)
  refine an ?_ ?_
  refine an ?_ ?_
  (show (0:Int)≤(↑(4:Nat):Int); omega)
  (show (↑(4:Nat):Int) < (↑(7:Nat):Int); omega)
  refine sd ?_
  refine b_le (fun t3=>?_) (fun t3=>?_)
  rotate_left
  refine ar_add ?_ ?_
  refine an ?_ ?_
  (show (-9223372036854775808:Int)≤(↑(4:Nat):Int)+(1:Int); omega)
  (show (↑(4:Nat):Int)+(1:Int)≤(9223372036854775807:Int); omega)
  rotate_left
  ·exact ten (hb (by unfold badN; rw [decide_eq_true t2]; rfl))
  ·exact ten (hb (by unfold badN; rw [decide_eq_true t3]; simp))
  ·exact fin (by unfold badN; rw [decide_eq_false t2,decide_eq_false t3]; rfl)
 | 5,hj,hI =>
  have hb:badN n x.g=true→(wk x).any (badN n)=true:=fun h=>by rw [hI]; show (badN n x.g||_)=true; rw [h]; rfl
  have hg:badN n x.g=false→(wk x).any (badN n)=((wk x).drop 6).any (badN n):=fun h=>by rw [hI]; show (badN n x.g||_)=_; rw [h]; rfl
  have fin:badN n x.g=false→∃ a':Nat,((a'≤7∧(wk x).any (badN n)=((wk x).drop a').any (badN n))∧7 - a' < 7 - 5)∧(⟨[(0,.d (.slice 8 (seas l))),(1,.d (.int .i64 (k:Int))),(2,.d (.int .i64 n)),(8,.d (.int .i64 6))],[]⟩:St)=⟨[(0,.d (.slice 8 (seas l))),(1,.d (.int .i64 (k:Int))),(2,.d (.int .i64 n)),(8,.d (.int .i64 (a':Int)))],[]⟩:=fun h=>⟨6,⟨⟨by omega,hg h⟩,by omega⟩,rfl⟩
  refine sd ?_
  refine ix_at hx1 ?_ ?_
  (show (0:Int)≤(↑k:Int); omega)
  refine an ?_ ?_
  refine an ?_ ?_
  (show (0:Int)≤(↑(5:Nat):Int); omega)
  (show (↑(5:Nat):Int) < (↑(7:Nat):Int); omega)
  refine sd ?_
  refine b_lt (fun t2=>?_) (fun t2=>?_)
  refine sd ?_
  rotate_left
  refine ix_at hx1 ?_ ?_
  (show (0:Int)≤(↑k:Int); omega)
  refine an ?_ ?_
  refine an ?_ ?_
  (show (0:Int)≤(↑(5:Nat):Int); omega)
  (show (↑(5:Nat):Int) < (↑(7:Nat):Int); omega)
  refine sd ?_
  refine b_le (fun t3=>?_) (fun t3=>?_)
  rotate_left
  refine ar_add ?_ ?_
  refine an ?_ ?_
  (show (-9223372036854775808:Int)≤(↑(5:Nat):Int)+(1:Int); omega)
  (show (↑(5:Nat):Int)+(1:Int)≤(9223372036854775807:Int); omega)
  rotate_left
  ·exact ten (hb (by unfold badN; rw [decide_eq_true t2]; rfl))
  ·exact ten (hb (by unfold badN; rw [decide_eq_true t3]; simp))
  ·exact fin (by unfold badN; rw [decide_eq_false t2,decide_eq_false t3]; rfl)
 | 6,hj,hI =>
  have hb:badN n x.h=true→(wk x).any (badN n)=true:=fun h=>by rw [hI]; show (badN n x.h||_)=true; rw [h]; rfl
  have hg:badN n x.h=false→(wk x).any (badN n)=((wk x).drop 7).any (badN n):=fun h=>by rw [hI]; show (badN n x.h||_)=_; rw [h]; rfl
  have fin:badN n x.h=false→∃ a':Nat,((a'≤7∧(wk x).any (badN n)=((wk x).drop a').any (badN n))∧7 - a' < 7 - 6)∧(⟨[(0,.d (.slice 8 (seas l))),(1,.d (.int .i64 (k:Int))),(2,.d (.int .i64 n)),(8,.d (.int .i64 7))],[]⟩:St)=⟨[(0,.d (.slice 8 (seas l))),(1,.d (.int .i64 (k:Int))),(2,.d (.int .i64 n)),(8,.d (.int .i64 (a':Int)))],[]⟩:=fun h=>⟨7,⟨⟨by omega,hg h⟩,by omega⟩,rfl⟩
  refine sd ?_
  refine ix_at hx1 ?_ ?_
  (show (0:Int)≤(↑k:Int); omega)
  refine an ?_ ?_
  refine an ?_ ?_
  (show (0:Int)≤(↑(6:Nat):Int); omega)
  (show (↑(6:Nat):Int) < (↑(7:Nat):Int); omega)
  refine sd ?_
  refine b_lt (fun t2=>?_) (fun t2=>?_)
  refine sd ?_
  rotate_left
  refine ix_at hx1 ?_ ?_
  (show (0:Int)≤(↑k:Int); omega)
  refine an ?_ ?_
  refine an ?_ ?_
  (show (0:Int)≤(↑(6:Nat):Int); omega)
  (show (↑(6:Nat):Int) < (↑(7:Nat):Int); omega)
  refine sd ?_
  refine b_le (fun t3=>?_) (fun t3=>?_)
  rotate_left
  refine ar_add ?_ ?_
  refine an ?_ ?_
  (show (-9223372036854775808:Int)≤(↑(6:Nat):Int)+(1:Int); omega)
  (show (↑(6:Nat):Int)+(1:Int)≤(9223372036854775807:Int); omega)
  rotate_left
  ·exact ten (hb (by unfold badN; rw [decide_eq_true t2]; rfl))
  ·exact ten (hb (by unfold badN; rw [decide_eq_true t3]; simp))
  ·exact fin (by unfold badN; rw [decide_eq_false t2,decide_eq_false t3]; rfl)
 | 7,hj,hI =>
  have hv:seaE n x k p=ascE k x.f p.f:=by rw [hv,hI]; rfl
  have c27_1:=c27 (x.f != 0) 11
  have c27_2:=c27 (decide (x.f≤p.f)) 11
  refine sd ?_
  refine sd ?_
  refine b_eq (fun t2=>?_) (fun t2=>?_)
  refine ix_at hx1 ?_ ?_
  (show (0:Int)≤(↑k:Int); omega)
  refine sd ?_
  refine ca c27_1 ?_
  rotate_left
  refine ix_at hx1 ?_ ?_
  (show (0:Int)≤(↑k:Int); omega)
  refine ar_sub ?_ ?_
  refine an ?_ ?_
  (show (-9223372036854775808:Int)≤(↑k:Int) - (1:Int); omega)
  (show (↑k:Int) - (1:Int)≤(9223372036854775807:Int); omega)
  refine ix_at hp1 ?_ ?_
  (show (0:Int)≤(↑k:Int) - (1:Int); omega)
  refine sd ?_
  refine ca c27_2 ?_
  rotate_left
  ·refine res_c ?_
   rw [hv]
   by_cases h:x.f=0
   ·rw [h]; exact (if_neg (by omega)).symm
   ·rw [bne_t h]; exact (if_pos (by omega)).symm
  ·refine res_c ?_
   rw [hv]
   by_cases h:x.f≤p.f
   ·rw [decide_eq_true h]; exact (if_pos (by omega)).symm
   ·rw [decide_eq_false h]; exact (if_neg (by omega)).symm
 | j+8,hj,hI=>exact absurd hj (by omega)
end Vc
set_option maxRecDepth 10000
set_option maxHeartbeats 4000000
namespace Vc
open Go Go.Proofs
theorem first_scan {α:Type} (f:α→Int) (l:List α):∀ (n k:Nat),n=l.length - k→scanE (gE (fun x _ _=>f x) l) n k=firstOf ((l.drop k).map f)
 | 0,k,h=>by rw [List.drop_eq_nil_of_le (by omega)]; rfl
 | n+1,k,h=>by
  refine Exists.elim (get_lt l (k:=k) (by omega)) fun x hx=>?_
  refine Exists.elim (get_lt l (k:=k - 1) (by omega)) fun p hp=>?_
  rw [drop_at hx,List.map_cons,firstOf,scanE,gE_at _ hx hp,first_scan f l n (k+1) (by omega)]
theorem first_sc {α:Type} (f:α→Int) (l:List α):firstOf (l.map f)=scE (fun x _ _=>f x) l:=(first_scan f l l.length 0 rfl).symm
theorem chain7 (a b c d e f g : Int) : (bif firstOf [a, b, c] != 0 then firstOf [a, b, c] else firstOf [d, bif e != 0 then e else f, g]) =
  bif a != 0 then a else bif b != 0 then b else bif c != 0 then c else bif d != 0 then d else bif e != 0 then e else bif f != 0 then f else g:=by
 rw [← first_app (es:=[a,b,c]) (fs:=[d,bif e != 0 then e else f,g]) rfl]
 have hx:∀ g:Int,(bif (bif e != 0 then e else f) != 0 then (bif e != 0 then e else f) else g)=bif e != 0 then e else bif f != 0 then f else g:=by
  intro g
  cases h:(e != 0)
  ·rfl
  ·show (bif e != 0 then e else g)=e
   rw [h]; rfl
 show (bif a != 0 then a else bif b != 0 then b else bif c != 0 then c else bif d != 0 then d else bif (bif e != 0 then e else f) != 0 then (bif e != 0 then e else f) else firstOf [g])=_
 rw [first_one,hx]
theorem tf_chain (t:Tf):tfE t=bif cntE t.p.length 8 != 0 then cntE t.p.length 8 else bif scE (fun x _ _=>prE x) t.p != 0 then scE (fun x _ _=>prE x) t.p else bif cntE t.t.length 8 != 0 then cntE t.t.length 8 else bif scE (fun x _ _=>tyE t.p.length x) t.t != 0 then scE (fun x _ _=>tyE t.p.length x) t.t else bif cntE t.s.length 8 != 0 then cntE t.s.length 8 else bif scE (seaE t.t.length) t.s != 0 then scE (seaE t.t.length) t.s else blsE t.b:=by
 unfold tfE seasE
 rw [first_sc prE,first_sc (tyE t.p.length)]
 exact chain7 _ _ _ _ _ _ _
def jr30:AFun:=⟨153,6,[.tmp 2],
 (.seq
 (.reg [0] [⟨some 1,.cbx 0 4 (.tmp 0),none⟩,
  ⟨some 2,.mov (.cst (.d (.int .i64 0))),none⟩])
 (.seq
  (.seq
  (.regd [1] [⟨some 15,.fad 0 (.tmp 1),none⟩,
   ⟨some 16,.ld false 1 (.tmp 15),none⟩,
   ⟨some 17,.len (.tmp 16),none⟩,
   ⟨some 18,.cmp .eql (.tmp 17) (.cst (.d (.int .i64 0))),none⟩,
   ⟨some 19,.call 27 [(.tmp 18),(.cst (.d (.int .i64 12)))],none⟩,
   ⟨some 20,.fad 0 (.tmp 1),none⟩,
   ⟨some 21,.ld false 1 (.tmp 20),none⟩,
   ⟨some 22,.len (.tmp 21),none⟩,
   ⟨some 23,.cmp .gtr (.tmp 22) (.cst (.d (.int .i64 8))),none⟩,
   ⟨some 24,.call 27 [(.tmp 23),(.cst (.d (.int .i64 5)))],none⟩,
   ⟨some 25,.bsl 1 3 1 2 [(.int .i64 0),(.int .i64 0)] [(0,(.tmp 19)),(1,(.tmp 24))],none⟩,
   ⟨some 26,.call 24 [(.tmp 25)],none⟩,
   ⟨some 3,.mov (.tmp 26),none⟩] [(0,5),(1,5),(2,5),(3,5),(4,5),(0,6),(1,6),(2,6),(3,6),(4,6),(0,7),(1,7),(2,7),(3,7),(4,7),(0,8),(1,8),(2,8),(3,8),(4,8)])
  (.seq
   (.reg [] [⟨some 27,.mov (.tmp 3),none⟩,
    ⟨some 28,.cmp .neq (.tmp 27) (.cst (.d (.int .i64 0))),none⟩])
   (.cond (.tmp 28)
   (.seq
    (.reg [] [⟨some 29,.mov (.tmp 3),none⟩,
     ⟨some 2,.mov (.tmp 29),none⟩])
    .ret)
   .skip)))
  (.seq
  (.seq
   (.reg [] [⟨some 4,.mov (.cst (.d (.int .i64 0))),none⟩])
   (.post [1] [0,1]
   (.block 0
    (.keep [1,4] [0,1]
    (.loop
     (.post [1,4] []
     (.seq
      (.seq
      (.reg [] [⟨some 30,.mov (.tmp 4),none⟩,
       ⟨some 31,.fad 0 (.tmp 1),none⟩,
       ⟨some 32,.ld false 1 (.tmp 31),none⟩,
       ⟨some 33,.len (.tmp 32),none⟩,
       ⟨some 34,.cmp .lss (.tmp 30) (.tmp 33),none⟩])
      (.cond (.tmp 34)
       .skip
       (.exit 0)))
      (.seq
      (.block 1
       (.seq
       (.reg [] [⟨some 37,.fad 0 (.tmp 1),none⟩,
        ⟨some 38,.ld false 1 (.tmp 37),none⟩,
        ⟨some 39,.mov (.tmp 4),none⟩,
        ⟨some 40,.ixa 1 (.tmp 38) (.tmp 39),none⟩,
        ⟨some 41,.ld false 1 (.tmp 40),none⟩,
        ⟨some 42,.call 70 [(.tmp 41),(.cst (.d (.int .i64 0))),(.cst (.d (.int .i64 100000)))],none⟩,
        ⟨some 5,.mov (.tmp 42),none⟩])
       (.seq
        (.reg [] [⟨some 43,.mov (.tmp 5),none⟩,
         ⟨some 44,.cmp .neq (.tmp 43) (.cst (.d (.int .i64 0))),none⟩])
        (.cond (.tmp 44)
        (.seq
         (.reg [] [⟨some 45,.mov (.tmp 5),none⟩,
          ⟨some 2,.mov (.tmp 45),none⟩])
         .ret)
        .skip))))
      (.reg [] [⟨some 35,.mov (.tmp 4),none⟩,
       ⟨some 36,.arith .add .i64 (.tmp 35) (.cst (.d (.int .i64 1))),none⟩,
       ⟨some 4,.mov (.tmp 36),none⟩])))))))))
  (.seq
   (.seq
   (.regd [2] [⟨some 46,.fad 1 (.tmp 1),none⟩,
    ⟨some 47,.ld false 1 (.tmp 46),none⟩,
    ⟨some 48,.len (.tmp 47),none⟩,
    ⟨some 49,.cmp .eql (.tmp 48) (.cst (.d (.int .i64 0))),none⟩,
    ⟨some 50,.call 27 [(.tmp 49),(.cst (.d (.int .i64 12)))],none⟩,
    ⟨some 51,.fad 1 (.tmp 1),none⟩,
    ⟨some 52,.ld false 1 (.tmp 51),none⟩,
    ⟨some 53,.len (.tmp 52),none⟩,
    ⟨some 54,.cmp .gtr (.tmp 53) (.cst (.d (.int .i64 8))),none⟩,
    ⟨some 55,.call 27 [(.tmp 54),(.cst (.d (.int .i64 5)))],none⟩,
    ⟨some 56,.bsl 2 3 1 2 [(.int .i64 0),(.int .i64 0)] [(0,(.tmp 50)),(1,(.tmp 55))],none⟩,
    ⟨some 57,.call 24 [(.tmp 56)],none⟩,
    ⟨some 6,.mov (.tmp 57),none⟩] [(0,5),(1,5),(2,5),(3,5),(4,5),(0,6),(1,6),(2,6),(3,6),(4,6),(0,7),(1,7),(2,7),(3,7),(4,7),(0,8),(1,8),(2,8),(3,8),(4,8)])
   (.seq
    (.reg [] [⟨some 58,.mov (.tmp 6),none⟩,
     ⟨some 59,.cmp .neq (.tmp 58) (.cst (.d (.int .i64 0))),none⟩])
    (.cond (.tmp 59)
    (.seq
     (.reg [] [⟨some 60,.mov (.tmp 6),none⟩,
      ⟨some 2,.mov (.tmp 60),none⟩])
     .ret)
    .skip)))
   (.seq
   (.seq
    (.reg [] [⟨some 7,.mov (.cst (.d (.int .i64 0))),none⟩])
    (.post [1] [0,1,2]
    (.block 2
     (.keep [1,7] [0,1,2]
     (.loop
      (.post [1,7] []
      (.seq
       (.seq
       (.reg [] [⟨some 61,.mov (.tmp 7),none⟩,
        ⟨some 62,.fad 1 (.tmp 1),none⟩,
        ⟨some 63,.ld false 1 (.tmp 62),none⟩,
        ⟨some 64,.len (.tmp 63),none⟩,
        ⟨some 65,.cmp .lss (.tmp 61) (.tmp 64),none⟩])
       (.cond (.tmp 65)
        .skip
        (.exit 2)))
       (.seq
       (.block 3
        (.seq
        (.regd [] [⟨some 68,.fad 1 (.tmp 1),none⟩,
         ⟨some 69,.ld false 1 (.tmp 68),none⟩,
         ⟨some 70,.mov (.tmp 7),none⟩,
         ⟨some 71,.ixa 1 (.tmp 69) (.tmp 70),none⟩,
         ⟨some 72,.ld false 1 (.tmp 71),none⟩,
         ⟨some 73,.fad 0 (.tmp 1),none⟩,
         ⟨some 74,.ld false 1 (.tmp 73),none⟩,
         ⟨some 75,.len (.tmp 74),none⟩,
         ⟨some 76,.call 107 [(.tmp 72),(.tmp 75)],none⟩,
         ⟨some 8,.mov (.tmp 76),none⟩] [(0,2),(1,2),(0,5),(1,5),(2,5),(3,5),(4,5),(0,6),(1,6),(2,6),(3,6),(4,6),(0,7),(1,7),(2,7),(3,7),(4,7)])
        (.seq
         (.reg [] [⟨some 77,.mov (.tmp 8),none⟩,
          ⟨some 78,.cmp .neq (.tmp 77) (.cst (.d (.int .i64 0))),none⟩])
         (.cond (.tmp 78)
         (.seq
          (.reg [] [⟨some 79,.mov (.tmp 8),none⟩,
           ⟨some 2,.mov (.tmp 79),none⟩])
          .ret)
         .skip))))
       (.reg [] [⟨some 66,.mov (.tmp 7),none⟩,
        ⟨some 67,.arith .add .i64 (.tmp 66) (.cst (.d (.int .i64 1))),none⟩,
        ⟨some 7,.mov (.tmp 67),none⟩])))))))))
   (.seq
    (.seq
    (.regd [3] [⟨some 80,.fad 2 (.tmp 1),none⟩,
     ⟨some 81,.ld false 1 (.tmp 80),none⟩,
     ⟨some 82,.len (.tmp 81),none⟩,
     ⟨some 83,.cmp .eql (.tmp 82) (.cst (.d (.int .i64 0))),none⟩,
     ⟨some 84,.call 27 [(.tmp 83),(.cst (.d (.int .i64 12)))],none⟩,
     ⟨some 85,.fad 2 (.tmp 1),none⟩,
     ⟨some 86,.ld false 1 (.tmp 85),none⟩,
     ⟨some 87,.len (.tmp 86),none⟩,
     ⟨some 88,.cmp .gtr (.tmp 87) (.cst (.d (.int .i64 8))),none⟩,
     ⟨some 89,.call 27 [(.tmp 88),(.cst (.d (.int .i64 5)))],none⟩,
     ⟨some 90,.bsl 3 3 1 2 [(.int .i64 0),(.int .i64 0)] [(0,(.tmp 84)),(1,(.tmp 89))],none⟩,
     ⟨some 91,.call 24 [(.tmp 90)],none⟩,
     ⟨some 9,.mov (.tmp 91),none⟩] [(0,5),(1,5),(2,5),(3,5),(4,5),(0,6),(1,6),(2,6),(3,6),(4,6),(0,7),(1,7),(2,7),(3,7),(4,7),(0,8),(1,8),(2,8),(3,8),(4,8)])
    (.seq
     (.reg [] [⟨some 92,.mov (.tmp 9),none⟩,
      ⟨some 93,.cmp .neq (.tmp 92) (.cst (.d (.int .i64 0))),none⟩])
     (.cond (.tmp 93)
     (.seq
      (.reg [] [⟨some 94,.mov (.tmp 9),none⟩,
       ⟨some 2,.mov (.tmp 94),none⟩])
      .ret)
     .skip)))
    (.seq
    (.seq
     (.reg [] [⟨some 10,.mov (.cst (.d (.int .i64 0))),none⟩])
     (.post [1] [0,1,2,3]
     (.block 4
      (.keep [1,10] [0,1,2,3]
      (.loop
       (.post [1,10] []
       (.seq
        (.seq
        (.reg [] [⟨some 95,.mov (.tmp 10),none⟩,
         ⟨some 96,.fad 2 (.tmp 1),none⟩,
         ⟨some 97,.ld false 1 (.tmp 96),none⟩,
         ⟨some 98,.len (.tmp 97),none⟩,
         ⟨some 99,.cmp .lss (.tmp 95) (.tmp 98),none⟩])
        (.cond (.tmp 99)
         .skip
         (.exit 4)))
        (.seq
        (.block 5
         (.seq
         (.reg [] [⟨some 102,.fad 2 (.tmp 1),none⟩,
          ⟨some 103,.ld false 1 (.tmp 102),none⟩,
          ⟨some 104,.mov (.tmp 10),none⟩,
          ⟨some 105,.fad 1 (.tmp 1),none⟩,
          ⟨some 106,.ld false 1 (.tmp 105),none⟩,
          ⟨some 107,.len (.tmp 106),none⟩,
          ⟨some 108,.call 108 [(.tmp 103),(.tmp 104),(.tmp 107)],none⟩,
          ⟨some 11,.mov (.tmp 108),none⟩])
         (.seq
          (.reg [] [⟨some 109,.mov (.tmp 11),none⟩,
           ⟨some 110,.cmp .neq (.tmp 109) (.cst (.d (.int .i64 0))),none⟩])
          (.cond (.tmp 110)
          (.seq
           (.reg [] [⟨some 111,.mov (.tmp 11),none⟩,
            ⟨some 2,.mov (.tmp 111),none⟩])
           .ret)
          .skip))))
        (.reg [] [⟨some 100,.mov (.tmp 10),none⟩,
         ⟨some 101,.arith .add .i64 (.tmp 100) (.cst (.d (.int .i64 1))),none⟩,
         ⟨some 10,.mov (.tmp 101),none⟩])))))))))
    (.seq
     (.seq
     (.reg [] [⟨some 112,.fad 3 (.tmp 1),none⟩,
      ⟨some 113,.ld false 1 (.tmp 112),none⟩,
      ⟨some 114,.len (.tmp 113),none⟩,
      ⟨some 115,.cmp .gtr (.tmp 114) (.cst (.d (.int .i64 4))),none⟩])
     (.cond (.tmp 115)
      (.seq
      (.reg [] [⟨some 2,.mov (.cst (.d (.int .i64 5))),none⟩])
      .ret)
      .skip))
     (.seq
     (.seq
      (.reg [] [⟨some 12,.mov (.cst (.d (.int .i64 0))),none⟩])
      (.post [] [0,1,2,3,4,5]
      (.block 6
       (.keep [1,12] [0,1,2,3]
       (.loop
        (.post [1,12] [4,5]
        (.seq
         (.seq
         (.reg [] [⟨some 116,.mov (.tmp 12),none⟩,
          ⟨some 117,.fad 3 (.tmp 1),none⟩,
          ⟨some 118,.ld false 1 (.tmp 117),none⟩,
          ⟨some 119,.len (.tmp 118),none⟩,
          ⟨some 120,.cmp .lss (.tmp 116) (.tmp 119),none⟩])
         (.cond (.tmp 120)
          .skip
          (.exit 6)))
         (.seq
         (.block 7
          (.seq
          (.reg [4] [⟨some 123,.fad 3 (.tmp 1),none⟩,
           ⟨some 124,.ld false 1 (.tmp 123),none⟩,
           ⟨some 125,.mov (.tmp 12),none⟩,
           ⟨some 126,.ixa 2 (.tmp 124) (.tmp 125),none⟩,
           ⟨some 127,.ld true 2 (.tmp 126),none⟩,
           ⟨some 13,.alloc 4 [(.d (.int .i64 0)),(.d (.int .i64 0))],none⟩,
           ⟨none,.st 2 (.tmp 13) (.tmp 127),none⟩])
          (.seq
           (.seq
           (.regd [5] [⟨some 128,.fad 0 (.tmp 13),none⟩,
            ⟨some 129,.ld false 1 (.tmp 128),none⟩,
            ⟨some 130,.call 70 [(.tmp 129),(.cst (.d (.int .i64 1))),(.cst (.d (.int .i64 100000000)))],none⟩,
            ⟨some 131,.fad 1 (.tmp 13),none⟩,
            ⟨some 132,.ld false 1 (.tmp 131),none⟩,
            ⟨some 133,.call 70 [(.tmp 132),(.cst (.d (.int .i64 (-100000)))),(.cst (.d (.int .i64 100000)))],none⟩,
            ⟨some 134,.bsl 5 3 1 2 [(.int .i64 0),(.int .i64 0)] [(0,(.tmp 130)),(1,(.tmp 133))],none⟩,
            ⟨some 135,.call 24 [(.tmp 134)],none⟩,
            ⟨some 14,.mov (.tmp 135),none⟩] [(0,3),(1,3),(2,3),(0,4),(1,4),(2,4)])
           (.seq
            (.reg [] [⟨some 136,.mov (.tmp 14),none⟩,
             ⟨some 137,.cmp .neq (.tmp 136) (.cst (.d (.int .i64 0))),none⟩])
            (.cond (.tmp 137)
            (.seq
             (.reg [] [⟨some 138,.mov (.tmp 14),none⟩,
              ⟨some 2,.mov (.tmp 138),none⟩])
             .ret)
            .skip)))
           (.seq
           (.regd [] [⟨some 139,.mov (.tmp 12),none⟩,
            ⟨some 140,.cmp .gtr (.tmp 139) (.cst (.d (.int .i64 0))),none⟩,
            ⟨some 141,.mov (.tmp 140),none⟩,
            ⟨some 142,.fad 0 (.tmp 13),some (141,true)⟩,
            ⟨some 143,.ld false 1 (.tmp 142),some (141,true)⟩,
            ⟨some 144,.fad 3 (.tmp 1),some (141,true)⟩,
            ⟨some 145,.ld false 1 (.tmp 144),some (141,true)⟩,
            ⟨some 146,.mov (.tmp 12),some (141,true)⟩,
            ⟨some 147,.arith .sub .i64 (.tmp 146) (.cst (.d (.int .i64 1))),some (141,true)⟩,
            ⟨some 148,.ixa 2 (.tmp 145) (.tmp 147),some (141,true)⟩,
            ⟨some 149,.fad 0 (.tmp 148),some (141,true)⟩,
            ⟨some 150,.ld false 1 (.tmp 149),some (141,true)⟩,
            ⟨some 151,.cmp .leq (.tmp 143) (.tmp 150),some (141,true)⟩,
            ⟨some 152,.pick (.tmp 141) (.tmp 151) (.cst (.d (.bool false))),none⟩] [(3,5),(4,5),(3,6),(4,6),(3,7),(4,7),(5,7),(6,7),(3,8),(4,8),(5,8),(6,8),(3,9),(4,9),(3,10),(4,10),(3,11),(4,11)])
           (.cond (.tmp 152)
            (.seq
            (.reg [] [⟨some 2,.mov (.cst (.d (.int .i64 11))),none⟩])
            .ret)
            .skip)))))
         (.reg [] [⟨some 121,.mov (.tmp 12),none⟩,
          ⟨some 122,.arith .add .i64 (.tmp 121) (.cst (.d (.int .i64 1))),none⟩,
          ⟨some 12,.mov (.tmp 122),none⟩])))))))))
     (.seq
      (.reg [] [⟨some 2,.mov (.cst (.d (.int .i64 0))),none⟩])
      .ret))))))))))⟩
theorem c30 (t:Tf) (h:t.ok):CallDet Tryz.prog 30 [.d (tfD t)] [.int .i64 (tfE t)]:=by
 have hlp:(ints t.p).length=t.p.length:=by simp [ints]
 have hlt:=tys_len t.t
 have hls:=seas_len t.s
 have hlb:=sws_len t.b
 have b1:=h.lp
 have b2:=h.lt
 have b3:=h.ls
 have b4:=h.lb
 have c27_1:=c27 ((((ints t.p).length:Nat):Int)==0) 12
 have c27_2:=c27 (decide (8 < (((ints t.p).length:Nat):Int))) 5
 have c24_1:CallDet Tryz.prog 24 [.d (.slice 1 [.int .i64 (bif (((ints t.p).length:Nat):Int)==0 then 12 else 0),.int .i64 (bif decide (8 < (((ints t.p).length:Nat):Int)) then 5 else 0)])] [.int .i64 (cntE ((ints t.p).length:Nat) 8)]:=c24 [bif (((ints t.p).length:Nat):Int)==0 then 12 else 0,bif decide (8 < (((ints t.p).length:Nat):Int)) then 5 else 0] (by simp)
 have c27_3:=c27 ((((tys t.t).length:Nat):Int)==0) 12
 have c27_4:=c27 (decide (8 < (((tys t.t).length:Nat):Int))) 5
 have c24_3:CallDet Tryz.prog 24 [.d (.slice 1 [.int .i64 (bif (((tys t.t).length:Nat):Int)==0 then 12 else 0),.int .i64 (bif decide (8 < (((tys t.t).length:Nat):Int)) then 5 else 0)])] [.int .i64 (cntE ((tys t.t).length:Nat) 8)]:=c24 [bif (((tys t.t).length:Nat):Int)==0 then 12 else 0,bif decide (8 < (((tys t.t).length:Nat):Int)) then 5 else 0] (by simp)
 have c27_5:=c27 ((((seas t.s).length:Nat):Int)==0) 12
 have c27_6:=c27 (decide (8 < (((seas t.s).length:Nat):Int))) 5
 have c24_5:CallDet Tryz.prog 24 [.d (.slice 1 [.int .i64 (bif (((seas t.s).length:Nat):Int)==0 then 12 else 0),.int .i64 (bif decide (8 < (((seas t.s).length:Nat):Int)) then 5 else 0)])] [.int .i64 (cntE ((seas t.s).length:Nat) 8)]:=c24 [bif (((seas t.s).length:Nat):Int)==0 then 12 else 0,bif decide (8 < (((seas t.s).length:Nat):Int)) then 5 else 0] (by simp)
 have hE:=tf_chain t
 refine call_of_vc (x:=jr30) (by kernel_rfl) rfl ?_
 refine sd ?_
 refine ca c27_1 ?_
 refine sd ?_
 refine ca c27_2 ?_
 refine sd ?_
 refine sd ?_
 refine ca c24_1 ?_
 refine sd ?_
 refine b_ne (fun t1=>?_) (fun t1=>?_)
 rotate_left
 rotate_left
 ·rw [hlp] at t1 ⊢
  exact res_c (by rw [hE,bne_t t1]; rfl)
 rw [hlp] at t1
 rw [t1] at hE
 replace hE:tfE t=bif scE (fun x _ _=>prE x) t.p != 0 then scE (fun x _ _=>prE x) t.p else bif cntE t.t.length 8 != 0 then cntE t.t.length 8 else bif scE (fun x _ _=>tyE t.p.length x) t.t != 0 then scE (fun x _ _=>tyE t.p.length x) t.t else bif cntE t.s.length 8 != 0 then cntE t.s.length 8 else bif scE (seaE t.t.length) t.s != 0 then scE (seaE t.t.length) t.s else blsE t.b:=hE
 refine loop_st (fun k:Nat=>⟨[(1,.ptr 0 0),(4,.d (.int .i64 (k:Int)))],[.cbox [.slice 1 (ints t.p),.slice 1 (tys t.t),.slice 8 (seas t.s),.slice 2 (sws t.b)],.none,.none,.none,.none,.none]⟩) (fun k=>k≤(t.p).length∧scanE (gE (fun x _ _=>prE x) (t.p)) ((t.p).length - k) k=scE (fun x _ _=>prE x) (t.p)) (fun k=>(t.p).length - k) 0 rfl ⟨Nat.zero_le _,rfl⟩ ?_
 rintro k ⟨hk,hI⟩
 dsimp only
 by_cases hkn:k < (t.p).length
 ·refine Exists.elim (get_lt (t.p) hkn) fun x hx=>?_
  refine Exists.elim (prev_at hkn) fun p hp=>?_
  have hp2:(t.p)[k - 1]?=some p:=by rw [← hp]; congr 1; omega
  have hp3:(t.p)[((k:Int) - 1).toNat]?=some p:=by rw [← hp2]; congr 1; omega
  have hg:=gE_at (fun x _ _=>prE x) hx hp2
  have hit:∀ v,(fun x _ _=>prE x) x k p=v→v≠0→resV [.int .i64 v]=resV [.int .i64 (tfE t)]:=fun v e t=>res_c (by rw [hE,scan_hit hI hkn (hg.trans e) t,bne_t t]; rfl)
  have fin:(fun x _ _=>prE x) x k p=0→∃ a':Nat,((a'≤(t.p).length∧scanE (gE (fun x _ _=>prE x) (t.p)) ((t.p).length - a') a'=scE (fun x _ _=>prE x) (t.p))∧(t.p).length - a' < (t.p).length - k)∧(⟨[(1,.ptr 0 0),(4,.d (.int .i64 ((k:Int)+1)))],[.cbox [.slice 1 (ints t.p),.slice 1 (tys t.t),.slice 8 (seas t.s),.slice 2 (sws t.b)],.none,.none,.none,.none,.none]⟩:St)=⟨[(1,.ptr 0 0),(4,.d (.int .i64 (a':Int)))],[.cbox [.slice 1 (ints t.p),.slice 1 (tys t.t),.slice 8 (seas t.s),.slice 2 (sws t.b)],.none,.none,.none,.none,.none]⟩:=fun t=>⟨k+1,⟨⟨by omega,scan_go hI hkn hg t⟩,by omega⟩,rfl⟩
  have hx1:=ints_get hx
  have c70_:=c70 x 0 100000
  refine sd ?_
  refine b_lt (fun t2=>?_) (fun t2=>?_)
  refine ix_at hx1 ?_ ?_
  (show (0:Int)≤(↑k:Int); omega)
  refine ca c70_ ?_
  refine sd ?_
  refine b_ne (fun t3=>?_) (fun t3=>?_)
  rotate_left
  refine ar_add ?_ ?_
  refine an ?_ ?_
  (show (-9223372036854775808:Int)≤(↑k:Int)+(1:Int); omega)
  (show (↑k:Int)+(1:Int)≤(9223372036854775807:Int); omega)
  rotate_left
  (exfalso; omega)
  ·exact hit _ rfl t3
  ·exact fin t3
 have e:k=(t.p).length:=by omega
 rw [e] at hI
 have h0:=scan_end hI
 rw [h0] at hE
 replace hE:tfE t=bif cntE t.t.length 8 != 0 then cntE t.t.length 8 else bif scE (fun x _ _=>tyE t.p.length x) t.t != 0 then scE (fun x _ _=>tyE t.p.length x) t.t else bif cntE t.s.length 8 != 0 then cntE t.s.length 8 else bif scE (seaE t.t.length) t.s != 0 then scE (seaE t.t.length) t.s else blsE t.b:=hE
 clear h0 hI
 refine sd ?_
 refine b_lt (fun t2=>?_) (fun t2=>?_)
 (exfalso; omega)
 refine sd ?_
 refine ca c27_3 ?_
 refine sd ?_
 refine ca c27_4 ?_
 refine sd ?_
 refine sd ?_
 refine ca c24_3 ?_
 refine sd ?_
 refine b_ne (fun t3=>?_) (fun t3=>?_)
 rotate_left
 rotate_left
 ·rw [hlt] at t3 ⊢
  exact res_c (by rw [hE,bne_t t3]; rfl)
 rw [hlt] at t3
 rw [t3] at hE
 replace hE:tfE t=bif scE (fun x _ _=>tyE t.p.length x) t.t != 0 then scE (fun x _ _=>tyE t.p.length x) t.t else bif cntE t.s.length 8 != 0 then cntE t.s.length 8 else bif scE (seaE t.t.length) t.s != 0 then scE (seaE t.t.length) t.s else blsE t.b:=hE
 refine loop_st (fun k:Nat=>⟨[(1,.ptr 0 0),(7,.d (.int .i64 (k:Int)))],[.cbox [.slice 1 (ints t.p),.slice 1 (tys t.t),.slice 8 (seas t.s),.slice 2 (sws t.b)],.none,.none,.none,.none,.none]⟩) (fun k=>k≤(t.t).length∧scanE (gE (fun x _ _=>tyE t.p.length x) (t.t)) ((t.t).length - k) k=scE (fun x _ _=>tyE t.p.length x) (t.t)) (fun k=>(t.t).length - k) 0 rfl ⟨Nat.zero_le _,rfl⟩ ?_
 rintro k ⟨hk,hI⟩
 dsimp only
 by_cases hkn:k < (t.t).length
 ·refine Exists.elim (get_lt (t.t) hkn) fun x hx=>?_
  refine Exists.elim (prev_at hkn) fun p hp=>?_
  have hp2:(t.t)[k - 1]?=some p:=by rw [← hp]; congr 1; omega
  have hp3:(t.t)[((k:Int) - 1).toNat]?=some p:=by rw [← hp2]; congr 1; omega
  have hg:=gE_at (fun x _ _=>tyE t.p.length x) hx hp2
  have hit:∀ v,(fun x _ _=>tyE t.p.length x) x k p=v→v≠0→resV [.int .i64 v]=resV [.int .i64 (tfE t)]:=fun v e t=>res_c (by rw [hE,scan_hit hI hkn (hg.trans e) t,bne_t t]; rfl)
  have fin:(fun x _ _=>tyE t.p.length x) x k p=0→∃ a':Nat,((a'≤(t.t).length∧scanE (gE (fun x _ _=>tyE t.p.length x) (t.t)) ((t.t).length - a') a'=scE (fun x _ _=>tyE t.p.length x) (t.t))∧(t.t).length - a' < (t.t).length - k)∧(⟨[(1,.ptr 0 0),(7,.d (.int .i64 ((k:Int)+1)))],[.cbox [.slice 1 (ints t.p),.slice 1 (tys t.t),.slice 8 (seas t.s),.slice 2 (sws t.b)],.none,.none,.none,.none,.none]⟩:St)=⟨[(1,.ptr 0 0),(7,.d (.int .i64 (a':Int)))],[.cbox [.slice 1 (ints t.p),.slice 1 (tys t.t),.slice 8 (seas t.s),.slice 2 (sws t.b)],.none,.none,.none,.none,.none]⟩:=fun t=>⟨k+1,⟨⟨by omega,scan_go hI hkn hg t⟩,by omega⟩,rfl⟩
  have hx1:=tys_at hx
  have c107_:=c107 x (h.lr x (List.mem_of_getElem? hx)) (((ints t.p).length:Nat):Int)
  refine sd ?_
  refine b_lt (fun t4=>?_) (fun t4=>?_)
  refine ix_at hx1 ?_ ?_
  (show (0:Int)≤(↑k:Int); omega)
  refine ca c107_ ?_
  refine sd ?_
  refine b_ne (fun t5=>?_) (fun t5=>?_)
  rotate_left
  refine ar_add ?_ ?_
  refine an ?_ ?_
  (show (-9223372036854775808:Int)≤(↑k:Int)+(1:Int); omega)
  (show (↑k:Int)+(1:Int)≤(9223372036854775807:Int); omega)
  rotate_left
  (exfalso; omega)
  ·exact hit _ (by rw [hlp]) t5
  ·exact fin (by rw [hlp] at t5; exact t5)
 have e:k=(t.t).length:=by omega
 rw [e] at hI
 have h0:=scan_end hI
 rw [h0] at hE
 replace hE:tfE t=bif cntE t.s.length 8 != 0 then cntE t.s.length 8 else bif scE (seaE t.t.length) t.s != 0 then scE (seaE t.t.length) t.s else blsE t.b:=hE
 clear h0 hI
 refine sd ?_
 refine b_lt (fun t4=>?_) (fun t4=>?_)
 (exfalso; omega)
 refine sd ?_
 refine ca c27_5 ?_
 refine sd ?_
 refine ca c27_6 ?_
 refine sd ?_
 refine sd ?_
 refine ca c24_5 ?_
 refine sd ?_
 refine b_ne (fun t5=>?_) (fun t5=>?_)
 rotate_left
 rotate_left
 ·rw [hls] at t5 ⊢
  exact res_c (by rw [hE,bne_t t5]; rfl)
 rw [hls] at t5
 rw [t5] at hE
 replace hE:tfE t=bif scE (seaE t.t.length) t.s != 0 then scE (seaE t.t.length) t.s else blsE t.b:=hE
 refine loop_st (fun k:Nat=>⟨[(1,.ptr 0 0),(10,.d (.int .i64 (k:Int)))],[.cbox [.slice 1 (ints t.p),.slice 1 (tys t.t),.slice 8 (seas t.s),.slice 2 (sws t.b)],.none,.none,.none,.none,.none]⟩) (fun k=>k≤(t.s).length∧scanE (gE (seaE t.t.length) (t.s)) ((t.s).length - k) k=scE (seaE t.t.length) (t.s)) (fun k=>(t.s).length - k) 0 rfl ⟨Nat.zero_le _,rfl⟩ ?_
 rintro k ⟨hk,hI⟩
 dsimp only
 by_cases hkn:k < (t.s).length
 ·refine Exists.elim (get_lt (t.s) hkn) fun x hx=>?_
  refine Exists.elim (prev_at hkn) fun p hp=>?_
  have hp2:(t.s)[k - 1]?=some p:=by rw [← hp]; congr 1; omega
  have hp3:(t.s)[((k:Int) - 1).toNat]?=some p:=by rw [← hp2]; congr 1; omega
  have hg:=gE_at (seaE t.t.length) hx hp2
  have hit:∀ v,(seaE t.t.length) x k p=v→v≠0→resV [.int .i64 v]=resV [.int .i64 (tfE t)]:=fun v e t=>res_c (by rw [hE,scan_hit hI hkn (hg.trans e) t,bne_t t]; rfl)
  have fin:(seaE t.t.length) x k p=0→∃ a':Nat,((a'≤(t.s).length∧scanE (gE (seaE t.t.length) (t.s)) ((t.s).length - a') a'=scE (seaE t.t.length) (t.s))∧(t.s).length - a' < (t.s).length - k)∧(⟨[(1,.ptr 0 0),(10,.d (.int .i64 ((k:Int)+1)))],[.cbox [.slice 1 (ints t.p),.slice 1 (tys t.t),.slice 8 (seas t.s),.slice 2 (sws t.b)],.none,.none,.none,.none,.none]⟩:St)=⟨[(1,.ptr 0 0),(10,.d (.int .i64 (a':Int)))],[.cbox [.slice 1 (ints t.p),.slice 1 (tys t.t),.slice 8 (seas t.s),.slice 2 (sws t.b)],.none,.none,.none,.none,.none]⟩:=fun t=>⟨k+1,⟨⟨by omega,scan_go hI hkn hg t⟩,by omega⟩,rfl⟩
  have c108_:=c108 t.s b3 (((tys t.t).length:Nat):Int) hx hp2
  refine sd ?_
  refine b_lt (fun t6=>?_) (fun t6=>?_)
  refine ca c108_ ?_
  refine sd ?_
  refine b_ne (fun t7=>?_) (fun t7=>?_)
  rotate_left
  refine ar_add ?_ ?_
  refine an ?_ ?_
  (show (-9223372036854775808:Int)≤(↑k:Int)+(1:Int); omega)
  (show (↑k:Int)+(1:Int)≤(9223372036854775807:Int); omega)
  rotate_left
  (exfalso; omega)
  ·exact hit _ (by rw [hlt]) t7
  ·exact fin (by rw [hlt] at t7; exact t7)
 have e:k=(t.s).length:=by omega
 rw [e] at hI
 have h0:=scan_end hI
 rw [h0] at hE
 replace hE:tfE t=blsE t.b:=hE
 clear h0 hI
 refine sd ?_
 refine b_lt (fun t6=>?_) (fun t6=>?_)
 (exfalso; omega)
 refine sd ?_
 refine b_lt (fun t7=>?_) (fun t7=>?_)
 rotate_left
 rotate_left
 ·rw [hlb] at t7
  exact res_c (by rw [hE]; unfold blsE; rw [decide_eq_true t7]; rfl)
 replace hE:tfE t=scE blE t.b:=by
  rw [hlb] at t7
  rw [hE]; unfold blsE; rw [decide_eq_false t7]; rfl
 refine loop_st (fun k:Nat=>⟨[(1,.ptr 0 0),(12,.d (.int .i64 (k:Int)))],[.cbox [.slice 1 (ints t.p),.slice 1 (tys t.t),.slice 8 (seas t.s),.slice 2 (sws t.b)],.none,.none,.none,.none,.none]⟩) (fun k=>k≤t.b.length∧scanE (gE blE t.b) (t.b.length - k) k=scE blE t.b) (fun k=>t.b.length - k) 0 rfl ⟨Nat.zero_le _,rfl⟩ ?_
 rintro k ⟨hk,hI⟩
 dsimp only
 by_cases hkn:k < t.b.length
 ·refine Exists.elim (get_lt t.b hkn) fun x hx=>?_
  refine Exists.elim (prev_at hkn) fun p hp=>?_
  have hp2:t.b[k - 1]?=some p:=by rw [← hp]; congr 1; omega
  have hp3:t.b[((k:Int) - 1).toNat]?=some p:=by rw [← hp2]; congr 1; omega
  have hg:=gE_at blE hx hp2
  have hit:blE x k p≠0→resV [.int .i64 (blE x k p)]=resV [.int .i64 (tfE t)]:=fun t=>res_c ((hE.trans (scan_hit hI hkn hg t)).symm)
  have fin:blE x k p=0→∃ a':Nat,((a'≤t.b.length∧scanE (gE blE t.b) (t.b.length - a') a'=scE blE t.b)∧t.b.length - a' < t.b.length - k)∧(⟨[(1,.ptr 0 0),(12,.d (.int .i64 ((k:Int)+1)))],[.cbox [.slice 1 (ints t.p),.slice 1 (tys t.t),.slice 8 (seas t.s),.slice 2 (sws t.b)],.none,.none,.none,.none,.none]⟩:St)=⟨[(1,.ptr 0 0),(12,.d (.int .i64 (a':Int)))],[.cbox [.slice 1 (ints t.p),.slice 1 (tys t.t),.slice 8 (seas t.s),.slice 2 (sws t.b)],.none,.none,.none,.none,.none]⟩:=fun t=>⟨k+1,⟨⟨by omega,scan_go hI hkn hg t⟩,by omega⟩,rfl⟩
  have hx1:=sws_at hx
  have hp1:(sws t.b)[((k:Int) - 1).toNat]?=some (.agg [.int .i64 p.1,.int .i64 p.2]):=by unfold sws; rw [List.getElem?_map,hp3]; rfl
  have c70_1:=c70 x.1 1 100000000
  have c70_2:=c70 x.2 (-100000) 100000
  have c24_:CallDet Tryz.prog 24 [.d (.slice 1 [.int .i64 (within3 x.1 1 100000000),.int .i64 (within3 x.2 (-100000) 100000)])] [.int .i64 (firstOf [within3 x.1 1 100000000,within3 x.2 (-100000) 100000])]:=c24 [within3 x.1 1 100000000,within3 x.2 (-100000) 100000] (by simp)
  have hv:blE x k p=bif firstOf [within3 x.1 1 100000000,within3 x.2 (-100000) 100000] != 0 then firstOf [within3 x.1 1 100000000,within3 x.2 (-100000) 100000] else bif (bif decide (0 < (k:Int)) then decide (x.1≤p.1) else false) then 11 else 0:=by
   unfold blE; rw [← first_app (es:=[within3 x.1 1 100000000,within3 x.2 (-100000) 100000]) (first_one _)]; rfl
  generalize firstOf [within3 x.1 1 100000000,within3 x.2 (-100000) 100000]=w at *
  refine sd ?_
  refine b_lt (fun t8=>?_) (fun t8=>?_)
  refine ix_at hx1 ?_ ?_
  (show (0:Int)≤(↑k:Int); omega)
  refine ca c70_1 ?_
  refine ca c70_2 ?_
  refine sd ?_
  refine sd ?_
  refine ca c24_ ?_
  refine sd ?_
  refine b_ne (fun t9=>?_) (fun t9=>?_)
  rotate_left
  refine sd ?_
  refine b_lt (fun t10=>?_) (fun t10=>?_)
  refine ar_sub ?_ ?_
  refine an ?_ ?_
  (show (-9223372036854775808:Int)≤(↑k:Int) - (1:Int); omega)
  (show (↑k:Int) - (1:Int)≤(9223372036854775807:Int); omega)
  refine ix_at hp1 ?_ ?_
  (show (0:Int)≤(↑k:Int) - (1:Int); omega)
  refine sd ?_
  refine b_le (fun t11=>?_) (fun t11=>?_)
  rotate_left
  refine ar_add ?_ ?_
  refine an ?_ ?_
  (show (-9223372036854775808:Int)≤(↑k:Int)+(1:Int); omega)
  (show (↑k:Int)+(1:Int)≤(9223372036854775807:Int); omega)
  rotate_left
  refine sd ?_
  refine ar_add ?_ ?_
  refine an ?_ ?_
  (show (-9223372036854775808:Int)≤(↑k:Int)+(1:Int); omega)
  (show (↑k:Int)+(1:Int)≤(9223372036854775807:Int); omega)
  rotate_left
  (exfalso; omega)
  ·have e3:blE x k p=w:=by rw [hv,bne_t t9]; rfl
   rw [← e3]; exact hit (by rw [e3]; exact t9)
  ·have e3:blE x k p=11:=by rw [hv,t9,decide_eq_true t10,decide_eq_true t11]; rfl
   rw [← e3]; exact hit (by rw [e3]; decide)
  ·exact fin (by rw [hv,t9,decide_eq_true t10,decide_eq_false t11]; rfl)
  ·exact fin (by rw [hv,t9,decide_eq_false t10]; rfl)
 ·have e:k=t.b.length:=by omega
  subst e
  refine sd ?_
  refine b_lt (fun t8=>?_) (fun t8=>?_)
  (exfalso; omega)
  rotate_left
  exact res_c ((hE.trans (scan_end hI)).symm)
end Vc
