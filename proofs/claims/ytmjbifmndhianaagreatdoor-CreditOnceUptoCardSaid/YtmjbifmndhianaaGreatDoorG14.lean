import Derived.Test.YtmjbifmndhianaaGreatDoorG13
set_option linter.unusedSectionVars false
set_option linter.unusedVariables false
set_option linter.unusedSimpArgs false
set_option maxRecDepth 10000
set_option maxHeartbeats 4000000
namespace Vc
open Go Go.Proofs
def jr16:AFun:=⟨32,4,[.cell 4 22 true,.tmp 5],
 (.seq
 (.reg [0,1] [⟨some 2,.cbx 0 22 (.tmp 0),none⟩,
  ⟨some 4,.alloc 1 [(.d (.int .i64 0)),(.d (.int .i64 0)),(.d (.int .i64 0)),(.d (.int .i64 0)),(.d (.int .u8 0)),(.d (.int .u8 0)),(.d (.int .u8 0)),(.d (.int .u8 0)),(.d (.int .u8 0)),(.d (.int .u8 0)),(.d (.int .u8 0)),(.d (.int .u8 0)),(.d (.int .u8 0)),(.d (.int .u8 0)),(.d (.int .u8 0)),(.d (.int .u8 0)),(.d (.int .u8 0)),(.d (.int .u8 0)),(.d (.int .u8 0)),(.d (.int .u8 0)),(.d (.bool false)),(.nils 1)],none⟩,
  ⟨some 5,.mov (.cst (.d (.int .i64 0))),none⟩])
 (.seq
  (.seq
  (.regd [2] [⟨some 8,.ld true 22 (.tmp 2),none⟩,
   ⟨some 9,.call 25 [(.tmp 8)],none⟩,
   ⟨some 10,.mov (.tmp 1),none⟩,
   ⟨some 11,.call 91 [(.tmp 10),(.cst (.d (.int .i64 0))),(.cst (.d (.int .i64 100000000)))],none⟩,
   ⟨some 12,.fad 0 (.tmp 2),none⟩,
   ⟨some 13,.ld false 1 (.tmp 12),none⟩,
   ⟨some 14,.mov (.tmp 1),none⟩,
   ⟨some 15,.arith .sub .i64 (.tmp 13) (.tmp 14),none⟩,
   ⟨some 16,.cmp .lss (.tmp 15) (.cst (.d (.int .i64 (-1000000000000)))),none⟩,
   ⟨some 17,.call 92 [(.tmp 16),(.cst (.d (.int .i64 4)))],none⟩,
   ⟨some 18,.bsl 2 30 1 3 [(.int .i64 0),(.int .i64 0),(.int .i64 0)] [(0,(.tmp 9)),(1,(.tmp 11)),(2,(.tmp 17))],none⟩,
   ⟨some 19,.call 90 [(.tmp 18)],none⟩,
   ⟨some 6,.mov (.tmp 19),none⟩] [(0,2),(1,2),(0,4),(1,4),(2,4),(3,4),(0,5),(1,5),(2,5),(3,5),(0,6),(1,6),(2,6),(3,6),(4,6),(5,6),(0,7),(1,7),(2,7),(3,7),(0,8),(1,8),(2,8),(3,8)])
  (.seq
   (.reg [] [⟨some 20,.mov (.tmp 6),none⟩,
    ⟨some 21,.cmp .neq (.tmp 20) (.cst (.d (.int .i64 0))),none⟩])
   (.cond (.tmp 21)
   (.seq
    (.reg [] [⟨some 22,.build [(.d (.int .i64 0)),(.d (.int .i64 0)),(.d (.int .i64 0)),(.d (.int .i64 0)),(.d (.int .u8 0)),(.d (.int .u8 0)),(.d (.int .u8 0)),(.d (.int .u8 0)),(.d (.int .u8 0)),(.d (.int .u8 0)),(.d (.int .u8 0)),(.d (.int .u8 0)),(.d (.int .u8 0)),(.d (.int .u8 0)),(.d (.int .u8 0)),(.d (.int .u8 0)),(.d (.int .u8 0)),(.d (.int .u8 0)),(.d (.int .u8 0)),(.d (.int .u8 0)),(.d (.bool false)),(.nils 1)] [],none⟩,
     ⟨some 23,.mov (.tmp 6),none⟩,
     ⟨none,.st 22 (.tmp 4) (.tmp 22),none⟩,
     ⟨some 5,.mov (.tmp 23),none⟩])
    .ret)
   .skip)))
  (.seq
  (.reg [3] [⟨some 24,.ld true 22 (.tmp 2),none⟩,
   ⟨some 25,.call 93 [(.tmp 24)],none⟩,
   ⟨some 7,.alloc 3 [(.d (.int .i64 0)),(.d (.int .i64 0)),(.d (.int .i64 0)),(.d (.int .i64 0)),(.d (.int .u8 0)),(.d (.int .u8 0)),(.d (.int .u8 0)),(.d (.int .u8 0)),(.d (.int .u8 0)),(.d (.int .u8 0)),(.d (.int .u8 0)),(.d (.int .u8 0)),(.d (.int .u8 0)),(.d (.int .u8 0)),(.d (.int .u8 0)),(.d (.int .u8 0)),(.d (.int .u8 0)),(.d (.int .u8 0)),(.d (.int .u8 0)),(.d (.int .u8 0)),(.d (.bool false)),(.nils 1)],none⟩,
   ⟨none,.st 22 (.tmp 7) (.tmp 25),none⟩])
  (.seq
   (.reg [] [⟨some 26,.fad 0 (.tmp 7),none⟩,
    ⟨some 27,.ld false 1 (.tmp 26),none⟩,
    ⟨some 28,.mov (.tmp 1),none⟩,
    ⟨some 29,.arith .sub .i64 (.tmp 27) (.tmp 28),none⟩,
    ⟨some 30,.fad 0 (.tmp 7),none⟩,
    ⟨none,.st 1 (.tmp 30) (.tmp 29),none⟩])
   (.seq
   (.reg [] [⟨some 31,.ld true 22 (.tmp 7),none⟩,
    ⟨none,.st 22 (.tmp 4) (.tmp 31),none⟩,
    ⟨some 5,.mov (.cst (.d (.int .i64 0))),none⟩])
   .ret)))))⟩
def jr18:AFun:=⟨12,1,[.tmp 2,.tmp 3],
 (.seq
 (.reg [0] [⟨some 1,.cbx 0 22 (.tmp 0),none⟩,
  ⟨some 2,.mov (.cst (.d (.int .i64 0))),none⟩,
  ⟨some 3,.mov (.cst (.d (.int .i64 0))),none⟩])
 (.seq
  (.seq
  (.reg [] [⟨some 5,.ld true 22 (.tmp 1),none⟩,
   ⟨some 6,.call 25 [(.tmp 5)],none⟩,
   ⟨some 4,.mov (.tmp 6),none⟩])
  (.seq
   (.reg [] [⟨some 7,.mov (.tmp 4),none⟩,
    ⟨some 8,.cmp .neq (.tmp 7) (.cst (.d (.int .i64 0))),none⟩])
   (.cond (.tmp 8)
   (.seq
    (.reg [] [⟨some 9,.mov (.tmp 4),none⟩,
     ⟨some 2,.mov (.cst (.d (.int .i64 0))),none⟩,
     ⟨some 3,.mov (.tmp 9),none⟩])
    .ret)
   .skip)))
  (.seq
  (.reg [] [⟨some 10,.ld true 22 (.tmp 1),none⟩,
   ⟨some 11,.call 95 [(.tmp 10)],none⟩,
   ⟨some 2,.mov (.tmp 11),none⟩,
   ⟨some 3,.mov (.cst (.d (.int .i64 0))),none⟩])
  .ret)))⟩
def jr19:AFun:=⟨13,1,[.tmp 2,.tmp 3],
 (.seq
 (.reg [0] [⟨some 1,.cbx 0 22 (.tmp 0),none⟩,
  ⟨some 2,.mov (.cst (.d (.bool false))),none⟩,
  ⟨some 3,.mov (.cst (.d (.int .i64 0))),none⟩])
 (.seq
  (.seq
  (.reg [] [⟨some 5,.ld true 22 (.tmp 1),none⟩,
   ⟨some 6,.call 25 [(.tmp 5)],none⟩,
   ⟨some 4,.mov (.tmp 6),none⟩])
  (.seq
   (.reg [] [⟨some 7,.mov (.tmp 4),none⟩,
    ⟨some 8,.cmp .neq (.tmp 7) (.cst (.d (.int .i64 0))),none⟩])
   (.cond (.tmp 8)
   (.seq
    (.reg [] [⟨some 9,.mov (.tmp 4),none⟩,
     ⟨some 2,.mov (.cst (.d (.bool false))),none⟩,
     ⟨some 3,.mov (.tmp 9),none⟩])
    .ret)
   .skip)))
  (.seq
  (.reg [] [⟨some 10,.ld true 22 (.tmp 1),none⟩,
   ⟨some 11,.call 95 [(.tmp 10)],none⟩,
   ⟨some 12,.cmp .lss (.tmp 11) (.cst (.d (.int .i64 0))),none⟩,
   ⟨some 2,.mov (.tmp 12),none⟩,
   ⟨some 3,.mov (.cst (.d (.int .i64 0))),none⟩])
  .ret)))⟩
def jr68:AFun:=⟨59,2,[.tmp 4],
 (.seq
 (.reg [0,1] [⟨some 2,.cbx 0 22 (.tmp 0),none⟩,
  ⟨some 3,.cbx 1 22 (.tmp 1),none⟩,
  ⟨some 4,.mov (.cst (.d (.bool false))),none⟩])
 (.seq
  (.reg [] [⟨some 5,.fad 0 (.tmp 2),none⟩,
   ⟨some 6,.ld false 1 (.tmp 5),none⟩,
   ⟨some 7,.fad 0 (.tmp 3),none⟩,
   ⟨some 8,.ld false 1 (.tmp 7),none⟩,
   ⟨some 9,.cmp .eql (.tmp 6) (.tmp 8),none⟩,
   ⟨some 10,.mov (.tmp 9),none⟩,
   ⟨some 11,.fad 1 (.tmp 2),some (10,true)⟩,
   ⟨some 12,.ld false 1 (.tmp 11),some (10,true)⟩,
   ⟨some 13,.fad 1 (.tmp 3),some (10,true)⟩,
   ⟨some 14,.ld false 1 (.tmp 13),some (10,true)⟩,
   ⟨some 15,.cmp .eql (.tmp 12) (.tmp 14),some (10,true)⟩,
   ⟨some 16,.pick (.tmp 10) (.tmp 15) (.cst (.d (.bool false))),none⟩,
   ⟨some 17,.mov (.tmp 16),none⟩,
   ⟨some 18,.fad 2 (.tmp 2),some (17,true)⟩,
   ⟨some 19,.ld false 1 (.tmp 18),some (17,true)⟩,
   ⟨some 20,.fad 2 (.tmp 3),some (17,true)⟩,
   ⟨some 21,.ld false 1 (.tmp 20),some (17,true)⟩,
   ⟨some 22,.cmp .eql (.tmp 19) (.tmp 21),some (17,true)⟩,
   ⟨some 23,.pick (.tmp 17) (.tmp 22) (.cst (.d (.bool false))),none⟩,
   ⟨some 24,.mov (.tmp 23),none⟩,
   ⟨some 25,.fad 3 (.tmp 2),some (24,true)⟩,
   ⟨some 26,.ld false 1 (.tmp 25),some (24,true)⟩,
   ⟨some 27,.fad 3 (.tmp 3),some (24,true)⟩,
   ⟨some 28,.ld false 1 (.tmp 27),some (24,true)⟩,
   ⟨some 29,.cmp .eql (.tmp 26) (.tmp 28),some (24,true)⟩,
   ⟨some 30,.pick (.tmp 24) (.tmp 29) (.cst (.d (.bool false))),none⟩,
   ⟨some 31,.mov (.tmp 30),none⟩,
   ⟨some 32,.fad 4 (.tmp 2),some (31,true)⟩,
   ⟨some 33,.ld true 8 (.tmp 32),some (31,true)⟩,
   ⟨some 34,.fad 4 (.tmp 3),some (31,true)⟩,
   ⟨some 35,.ld true 8 (.tmp 34),some (31,true)⟩,
   ⟨some 36,.aeq false [0,0,0,0,0,0,0,0] (.tmp 33) (.tmp 35),some (31,true)⟩,
   ⟨some 37,.pick (.tmp 31) (.tmp 36) (.cst (.d (.bool false))),none⟩,
   ⟨some 38,.mov (.tmp 37),none⟩,
   ⟨some 39,.fad 12 (.tmp 2),some (38,true)⟩,
   ⟨some 40,.ld true 8 (.tmp 39),some (38,true)⟩,
   ⟨some 41,.fad 12 (.tmp 3),some (38,true)⟩,
   ⟨some 42,.ld true 8 (.tmp 41),some (38,true)⟩,
   ⟨some 43,.aeq false [0,0,0,0,0,0,0,0] (.tmp 40) (.tmp 42),some (38,true)⟩,
   ⟨some 44,.pick (.tmp 38) (.tmp 43) (.cst (.d (.bool false))),none⟩,
   ⟨some 45,.mov (.tmp 44),none⟩,
   ⟨some 46,.fad 20 (.tmp 2),some (45,true)⟩,
   ⟨some 47,.ld false 1 (.tmp 46),some (45,true)⟩,
   ⟨some 48,.fad 20 (.tmp 3),some (45,true)⟩,
   ⟨some 49,.ld false 1 (.tmp 48),some (45,true)⟩,
   ⟨some 50,.beq false (.tmp 47) (.tmp 49),some (45,true)⟩,
   ⟨some 51,.pick (.tmp 45) (.tmp 50) (.cst (.d (.bool false))),none⟩,
   ⟨some 52,.mov (.tmp 51),none⟩,
   ⟨some 53,.fad 21 (.tmp 2),some (52,true)⟩,
   ⟨some 54,.ld false 1 (.tmp 53),some (52,true)⟩,
   ⟨some 55,.fad 21 (.tmp 3),some (52,true)⟩,
   ⟨some 56,.ld false 1 (.tmp 55),some (52,true)⟩,
   ⟨some 57,.call 35 [(.tmp 54),(.tmp 56)],some (52,true)⟩,
   ⟨some 58,.pick (.tmp 52) (.tmp 57) (.cst (.d (.bool false))),none⟩,
   ⟨some 4,.mov (.tmp 58),none⟩])
  .ret))⟩
theorem ckA_b {a:Ac} {c:Bool} (h:ckA a c=0):(-1000000000000≤a.b∧a.b≤1000000000000)∧0≤a.e∧a.e≤100000000:=by
 have hf:ckF a c=0:=by
  by_cases e:ckF a c=0
  ·exact e
  ·rw [ckA,bne_t e] at h; exact h
 have h1:=firstOf_zero hf (within3 a.b (-1000000000000) 1000000000000) (by simp)
 have h2:=firstOf_zero hf (within3 a.e 0 100000000) (by simp)
 exact ⟨within_ok h1,within_ok h2⟩
theorem c68 (a:Ac) (c:Bool) (hl:a.u.length≤1048576):CallDet Tryz.prog 68 [.d (.agg [.int .i64 (a.b),.int .i64 (a.d),.int .i64 a.s,.int .i64 a.e,.int .u8 a.k.a,.int .u8 a.k.b,.int .u8 a.k.c,.int .u8 a.k.d,.int .u8 a.k.e,.int .u8 a.k.f,.int .u8 a.k.g,.int .u8 a.k.h,.int .u8 a.n.a,.int .u8 a.n.b,.int .u8 a.n.c,.int .u8 a.n.d,.int .u8 a.n.e,.int .u8 a.n.f,.int .u8 a.n.g,.int .u8 a.n.h,.bool c,.slice 1 (ints a.u)]),.d (.agg [.int .i64 (a.b),.int .i64 (a.d),.int .i64 a.s,.int .i64 a.e,.int .u8 a.k.a,.int .u8 a.k.b,.int .u8 a.k.c,.int .u8 a.k.d,.int .u8 a.k.e,.int .u8 a.k.f,.int .u8 a.k.g,.int .u8 a.k.h,.int .u8 a.n.a,.int .u8 a.n.b,.int .u8 a.n.c,.int .u8 a.n.d,.int .u8 a.n.e,.int .u8 a.n.f,.int .u8 a.n.g,.int .u8 a.n.h,.bool c,.slice 1 (ints a.u)])] [.bool true]:=by
 have c35_:=c35 a.u a.u hl
 rw [show (a.u==a.u)=true from beq_self_eq_true _] at c35_
 refine call_of_vc (x:=jr68) (by kernel_rfl) rfl ?_
 refine sd ?_
 refine b_eq (fun t1=>?_) (fun t1=>?_)
 refine sd ?_
 refine b_eq (fun t2=>?_) (fun t2=>?_)
 refine sd ?_
 refine b_eq (fun t3=>?_) (fun t3=>?_)
 refine sd ?_
 refine b_eq (fun t4=>?_) (fun t4=>?_)
 refine ca (Exists.intro _ (And.intro rfl rfl)) ?_
 refine b_intro (fun t5=>?_) (fun t5=>?_)
 replace t5:(Ky.a (Ac.k a)==Ky.a (Ac.k a)&&(Ky.b (Ac.k a)==Ky.b (Ac.k a)&&(Ky.c (Ac.k a)==Ky.c (Ac.k a)&&(Ky.d (Ac.k a)==Ky.d (Ac.k a)&&(Ky.e (Ac.k a)==Ky.e (Ac.k a)&&(Ky.f (Ac.k a)==Ky.f (Ac.k a)&&(Ky.g (Ac.k a)==Ky.g (Ac.k a)&&(Ky.h (Ac.k a)==Ky.h (Ac.k a)&&true))))))))=true:=t5
 refine ca (Exists.intro _ (And.intro rfl rfl)) ?_
 refine b_intro (fun t6=>?_) (fun t6=>?_)
 replace t6:(Ky.a (Ac.n a)==Ky.a (Ac.n a)&&(Ky.b (Ac.n a)==Ky.b (Ac.n a)&&(Ky.c (Ac.n a)==Ky.c (Ac.n a)&&(Ky.d (Ac.n a)==Ky.d (Ac.n a)&&(Ky.e (Ac.n a)==Ky.e (Ac.n a)&&(Ky.f (Ac.n a)==Ky.f (Ac.n a)&&(Ky.g (Ac.n a)==Ky.g (Ac.n a)&&(Ky.h (Ac.n a)==Ky.h (Ac.n a)&&true))))))))=true:=t6
 refine b_intro (fun t7=>?_) (fun t7=>?_)
 replace t7:(c==c)=true:=t7
 refine ca c35_ ?_
 exact rfl
 replace t7:(c==c)=false:=t7
 refine sd ?_
 rotate_left
 replace t6:(Ky.a (Ac.n a)==Ky.a (Ac.n a)&&(Ky.b (Ac.n a)==Ky.b (Ac.n a)&&(Ky.c (Ac.n a)==Ky.c (Ac.n a)&&(Ky.d (Ac.n a)==Ky.d (Ac.n a)&&(Ky.e (Ac.n a)==Ky.e (Ac.n a)&&(Ky.f (Ac.n a)==Ky.f (Ac.n a)&&(Ky.g (Ac.n a)==Ky.g (Ac.n a)&&(Ky.h (Ac.n a)==Ky.h (Ac.n a)&&true))))))))=false:=t6
 refine sd ?_
 refine sd ?_
 rotate_left
 replace t5:(Ky.a (Ac.k a)==Ky.a (Ac.k a)&&(Ky.b (Ac.k a)==Ky.b (Ac.k a)&&(Ky.c (Ac.k a)==Ky.c (Ac.k a)&&(Ky.d (Ac.k a)==Ky.d (Ac.k a)&&(Ky.e (Ac.k a)==Ky.e (Ac.k a)&&(Ky.f (Ac.k a)==Ky.f (Ac.k a)&&(Ky.g (Ac.k a)==Ky.g (Ac.k a)&&(Ky.h (Ac.k a)==Ky.h (Ac.k a)&&true))))))))=false:=t5
 refine sd ?_
 refine sd ?_
 refine sd ?_
 rotate_left
 (exfalso; omega)
 (exfalso; omega)
 (exfalso; omega)
 (exfalso; omega)
 exact absurd t7 (by simp)
 exact absurd t6 (by simp)
 exact absurd t5 (by simp)
end Vc
