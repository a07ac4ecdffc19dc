import Derived.Test.YtmjbifmndhianaaGreatDoorG12
set_option linter.unusedSectionVars false
set_option linter.unusedVariables false
set_option linter.unusedSimpArgs false
set_option maxRecDepth 10000
set_option maxHeartbeats 4000000
namespace Vc
open Go Go.Proofs
def jr20:AFun:=⟨70,2,[.tmp 2],
 (.seq
 (.reg [0] [⟨some 1,.cbx 0 22 (.tmp 0),none⟩,
  ⟨some 2,.mov (.cst (.d (.int .i64 0))),none⟩])
 (.seq
  (.seq
  (.regd [1] [⟨some 6,.fad 0 (.tmp 1),none⟩,
   ⟨some 7,.ld false 1 (.tmp 6),none⟩,
   ⟨some 8,.call 22 [(.tmp 7),(.cst (.d (.int .i64 (-1000000000000)))),(.cst (.d (.int .i64 1000000000000)))],none⟩,
   ⟨some 9,.fad 1 (.tmp 1),none⟩,
   ⟨some 10,.ld false 1 (.tmp 9),none⟩,
   ⟨some 11,.call 22 [(.tmp 10),(.cst (.d (.int .i64 0))),(.cst (.d (.int .i64 1000000000000)))],none⟩,
   ⟨some 12,.fad 2 (.tmp 1),none⟩,
   ⟨some 13,.ld false 1 (.tmp 12),none⟩,
   ⟨some 14,.call 22 [(.tmp 13),(.cst (.d (.int .i64 0))),(.cst (.d (.int .i64 100)))],none⟩,
   ⟨some 15,.fad 3 (.tmp 1),none⟩,
   ⟨some 16,.ld false 1 (.tmp 15),none⟩,
   ⟨some 17,.call 22 [(.tmp 16),(.cst (.d (.int .i64 0))),(.cst (.d (.int .i64 100000000)))],none⟩,
   ⟨some 18,.fad 20 (.tmp 1),none⟩,
   ⟨some 19,.ld false 1 (.tmp 18),none⟩,
   ⟨some 20,.not (.tmp 19),none⟩,
   ⟨some 21,.mov (.tmp 20),none⟩,
   ⟨some 22,.fad 12 (.tmp 1),some (21,true)⟩,
   ⟨some 23,.ld true 8 (.tmp 22),some (21,true)⟩,
   ⟨some 24,.build [(.d (.int .u8 0)),(.d (.int .u8 0)),(.d (.int .u8 0)),(.d (.int .u8 0)),(.d (.int .u8 0)),(.d (.int .u8 0)),(.d (.int .u8 0)),(.d (.int .u8 0))] [],some (21,true)⟩,
   ⟨some 25,.aeq true [0,0,0,0,0,0,0,0] (.tmp 23) (.tmp 24),some (21,true)⟩,
   ⟨some 26,.pick (.tmp 21) (.tmp 25) (.cst (.d (.bool false))),none⟩,
   ⟨some 27,.call 97 [(.tmp 26),(.cst (.d (.int .i64 1)))],none⟩,
   ⟨some 28,.fad 21 (.tmp 1),none⟩,
   ⟨some 29,.ld false 1 (.tmp 28),none⟩,
   ⟨some 30,.len (.tmp 29),none⟩,
   ⟨some 31,.cmp .gtr (.tmp 30) (.cst (.d (.int .i64 256))),none⟩,
   ⟨some 32,.call 97 [(.tmp 31),(.cst (.d (.int .i64 5)))],none⟩,
   ⟨some 33,.bsl 1 3 1 6 [(.int .i64 0),(.int .i64 0),(.int .i64 0),(.int .i64 0),(.int .i64 0),(.int .i64 0)] [(0,(.tmp 8)),(1,(.tmp 11)),(2,(.tmp 14)),(3,(.tmp 17)),(4,(.tmp 27)),(5,(.tmp 32))],none⟩,
   ⟨some 34,.call 96 [(.tmp 33)],none⟩,
   ⟨some 3,.mov (.tmp 34),none⟩] [(0,3),(1,3),(2,3),(0,4),(1,4),(2,4),(0,6),(1,6),(2,6),(3,6),(4,6),(5,6),(0,7),(1,7),(2,7),(3,7),(4,7),(5,7),(0,9),(1,9),(2,9),(3,9),(4,9),(5,9),(6,9),(7,9),(8,9),(0,10),(1,10),(2,10),(3,10),(4,10),(5,10),(6,10),(7,10),(8,10),(0,12),(1,12),(2,12),(3,12),(4,12),(5,12),(6,12),(7,12),(8,12),(9,12),(10,12),(11,12),(0,13),(1,13),(2,13),(3,13),(4,13),(5,13),(6,13),(7,13),(8,13),(9,13),(10,13),(11,13),(0,14),(1,14),(2,14),(3,14),(4,14),(5,14),(6,14),(7,14),(8,14),(9,14),(10,14),(11,14),(16,18),(17,18),(0,22),(1,22),(2,22),(3,22),(4,22),(5,22),(6,22),(7,22),(8,22),(9,22),(10,22),(11,22),(12,22),(13,22),(14,22),(15,22),(16,22),(17,22),(18,22),(19,22),(20,22),(21,22),(0,23),(1,23),(2,23),(3,23),(4,23),(5,23),(6,23),(7,23),(8,23),(9,23),(10,23),(11,23),(12,23),(13,23),(14,23),(15,23),(16,23),(17,23),(18,23),(19,23),(20,23),(21,23),(0,24),(1,24),(2,24),(3,24),(4,24),(5,24),(6,24),(7,24),(8,24),(9,24),(10,24),(11,24),(12,24),(13,24),(14,24),(15,24),(16,24),(17,24),(18,24),(19,24),(20,24),(21,24),(0,25),(1,25),(2,25),(3,25),(4,25),(5,25),(6,25),(7,25),(8,25),(9,25),(10,25),(11,25),(12,25),(13,25),(14,25),(15,25),(16,25),(17,25),(18,25),(19,25),(20,25),(21,25)])
  (.seq
   (.reg [] [⟨some 35,.mov (.tmp 3),none⟩,
    ⟨some 36,.cmp .neq (.tmp 35) (.cst (.d (.int .i64 0))),none⟩])
   (.cond (.tmp 36)
   (.seq
    (.reg [] [⟨some 37,.mov (.tmp 3),none⟩,
     ⟨some 2,.mov (.tmp 37),none⟩])
    .ret)
   .skip)))
  (.seq
  (.seq
   (.reg [] [⟨some 4,.mov (.cst (.d (.int .i64 0))),none⟩])
   (.post [] [0,1]
   (.block 0
    (.keep [1,4] [0,1]
    (.loop
     (.post [1,4] []
     (.seq
      (.seq
      (.reg [] [⟨some 38,.mov (.tmp 4),none⟩,
       ⟨some 39,.fad 21 (.tmp 1),none⟩,
       ⟨some 40,.ld false 1 (.tmp 39),none⟩,
       ⟨some 41,.len (.tmp 40),none⟩,
       ⟨some 42,.cmp .lss (.tmp 38) (.tmp 41),none⟩])
      (.cond (.tmp 42)
       .skip
       (.exit 0)))
      (.seq
      (.block 1
       (.seq
       (.seq
        (.reg [] [⟨some 45,.fad 21 (.tmp 1),none⟩,
         ⟨some 46,.ld false 1 (.tmp 45),none⟩,
         ⟨some 47,.mov (.tmp 4),none⟩,
         ⟨some 48,.ixa 1 (.tmp 46) (.tmp 47),none⟩,
         ⟨some 49,.ld false 1 (.tmp 48),none⟩,
         ⟨some 50,.call 98 [(.tmp 49)],none⟩,
         ⟨some 5,.mov (.tmp 50),none⟩])
        (.seq
        (.reg [] [⟨some 51,.mov (.tmp 5),none⟩,
         ⟨some 52,.cmp .neq (.tmp 51) (.cst (.d (.int .i64 0))),none⟩])
        (.cond (.tmp 52)
         (.seq
         (.reg [] [⟨some 53,.mov (.tmp 5),none⟩,
          ⟨some 2,.mov (.tmp 53),none⟩])
         .ret)
         .skip)))
       (.seq
        (.regd [] [⟨some 54,.mov (.tmp 4),none⟩,
         ⟨some 55,.cmp .gtr (.tmp 54) (.cst (.d (.int .i64 0))),none⟩,
         ⟨some 56,.mov (.tmp 55),none⟩,
         ⟨some 57,.fad 21 (.tmp 1),some (56,true)⟩,
         ⟨some 58,.ld false 1 (.tmp 57),some (56,true)⟩,
         ⟨some 59,.mov (.tmp 4),some (56,true)⟩,
         ⟨some 60,.ixa 1 (.tmp 58) (.tmp 59),some (56,true)⟩,
         ⟨some 61,.ld false 1 (.tmp 60),some (56,true)⟩,
         ⟨some 62,.fad 21 (.tmp 1),some (56,true)⟩,
         ⟨some 63,.ld false 1 (.tmp 62),some (56,true)⟩,
         ⟨some 64,.mov (.tmp 4),some (56,true)⟩,
         ⟨some 65,.arith .sub .i64 (.tmp 64) (.cst (.d (.int .i64 1))),some (56,true)⟩,
         ⟨some 66,.ixa 1 (.tmp 63) (.tmp 65),some (56,true)⟩,
         ⟨some 67,.ld false 1 (.tmp 66),some (56,true)⟩,
         ⟨some 68,.cmp .leq (.tmp 61) (.tmp 67),some (56,true)⟩,
         ⟨some 69,.pick (.tmp 56) (.tmp 68) (.cst (.d (.bool false))),none⟩] [(3,5),(4,5),(3,8),(4,8),(5,8),(6,8),(7,8),(3,9),(4,9),(5,9),(6,9),(7,9),(3,10),(4,10),(5,10),(6,10),(7,10),(8,10),(9,10),(3,11),(4,11),(5,11),(6,11),(7,11),(8,11),(9,11),(3,12),(4,12),(5,12),(6,12),(7,12),(3,13),(4,13),(5,13),(6,13),(7,13)])
        (.cond (.tmp 69)
        (.seq
         (.reg [] [⟨some 2,.mov (.cst (.d (.int .i64 11))),none⟩])
         .ret)
        .skip))))
      (.reg [] [⟨some 43,.mov (.tmp 4),none⟩,
       ⟨some 44,.arith .add .i64 (.tmp 43) (.cst (.d (.int .i64 1))),none⟩,
       ⟨some 4,.mov (.tmp 44),none⟩])))))))))
  (.seq
   (.reg [] [⟨some 2,.mov (.cst (.d (.int .i64 0))),none⟩])
   .ret))))⟩
theorem resC {x y:Int} (h:y=x):resV [.int .i64 x]=resV [.int .i64 y]:=by rw [h]
theorem resB {x y:Bool} (h:x=y):resV [.bool x]=resV [.bool y]:=by rw [h]
theorem ckE_w {x last:Int} (h:¬ within3 x 1 999999999=0):ckE x last=within3 x 1 999999999:=by
 rcases within3_or x 1 999999999 with e | e
 ·exact absurd e h
 ·rw [ckE,e]; rfl
theorem ckE_o {x last:Int} (h:within3 x 1 999999999=0):ckE x last=bif decide (x≤last) then 11 else 0:=by
 rw [ckE,h]
 cases decide (x≤last) <;> rfl
def prv (u:List Int):Nat→Int
 | 0=>0
 | k+1=>u[k]?.getD 0
theorem ckU_w {A x last B:Int} (hi:A=bif ckE x last != 0 then ckE x last else B) (h:¬ within3 x 1 999999999=0):resV [.int .i64 (within3 x 1 999999999)]=resV [.int .i64 A]:=by
 have e:=ckE_w (last:=last) h
 rw [hi,e,bne_t h]; rfl
theorem ckU_o {A x last B:Int} (hi:A=bif ckE x last != 0 then ckE x last else B) (h:within3 x 1 999999999=0) (h2:x≤last):A=11:=by
 have e:=ckE_o (last:=last) h
 rw [decide_eq_true h2] at e
 rw [hi,e]; rfl
theorem ckU_n {A x last B:Int} (hi:A=bif ckE x last != 0 then ckE x last else B) (h:within3 x 1 999999999=0) (h2:¬ x≤last):A=B:=by
 have e:=ckE_o (last:=last) h
 rw [decide_eq_false h2] at e
 rw [hi,e]; rfl
theorem c20 (a:Ac) (c:Bool) (hl:a.u.length≤1048576):CallDet Tryz.prog 20 [.d (.agg [.int .i64 (a.b),.int .i64 (a.d),.int .i64 a.s,.int .i64 a.e,.int .u8 a.k.a,.int .u8 a.k.b,.int .u8 a.k.c,.int .u8 a.k.d,.int .u8 a.k.e,.int .u8 a.k.f,.int .u8 a.k.g,.int .u8 a.k.h,.int .u8 a.n.a,.int .u8 a.n.b,.int .u8 a.n.c,.int .u8 a.n.d,.int .u8 a.n.e,.int .u8 a.n.f,.int .u8 a.n.g,.int .u8 a.n.h,.bool c,.slice 1 (ints a.u)])] [.int .i64 (ckA a c)]:=by
 have hlen:(ints a.u).length=a.u.length:=List.length_map _
 have w1:=c22 a.b (-1000000000000) 1000000000000
 have w2:=c22 a.d 0 1000000000000
 have w3:=c22 a.s 0 100
 have w4:=c22 a.e 0 100000000
 have c96_:=c96 [within3 a.b (-1000000000000) 1000000000000,within3 a.d 0 1000000000000,within3 a.s 0 100,within3 a.e 0 100000000,bif (bif c then false else !(kz a.n)) then 1 else 0,bif decide ((256:Int) < (((ints a.u).length:Nat):Int)) then 5 else 0] (by simp)
 cases c
 ·refine call_of_vc (x:=jr20) (by kernel_rfl) rfl ?_
  refine ca (c22 _ _ _) ?_
  refine ca (c22 _ _ _) ?_
  refine ca (c22 _ _ _) ?_
  refine ca (c22 _ _ _) ?_
  refine ca (Exists.intro _ (And.intro rfl rfl)) ?_
  refine ca (c97 _ _) ?_
  refine sd ?_
  refine ca (c97 _ _) ?_
  refine sd ?_
  refine sd ?_
  refine ca c96_ ?_
  refine sd ?_
  refine b_ne (fun t1=>?_) (fun t1=>?_)
  replace t1:¬firstOf [within3 (Ac.b a) (-1000000000000:Int) (1000000000000:Int),within3 (Ac.d a) (0:Int) (1000000000000:Int),within3 (Ac.s a) (0:Int) (100:Int),within3 (Ac.e a) (0:Int) (100000000:Int),bif !kz (Ac.n a) then (1:Int) else (0:Int),bif decide ((256:Int) < (↑(List.length (ints (Ac.u a))):Int)) then (5:Int) else (0:Int)]=(0:Int):=t1
  rotate_left
  replace t1:firstOf [within3 (Ac.b a) (-1000000000000:Int) (1000000000000:Int),within3 (Ac.d a) (0:Int) (1000000000000:Int),within3 (Ac.s a) (0:Int) (100:Int),within3 (Ac.e a) (0:Int) (100000000:Int),bif !kz (Ac.n a) then (1:Int) else (0:Int),bif decide ((256:Int) < (↑(List.length (ints (Ac.u a))):Int)) then (5:Int) else (0:Int)]=(0:Int):=t1
  rotate_left
  exact ckA_f (a:=a) (c:=false) t1
  have h0:=ckA_0 (a:=a) (c:=false) t1
  refine loop_st (fun k:Nat=>⟨[(1,.ptr 0 0),(4,.d (.int .i64 ((k:Nat))))],[.cbox [.int .i64 a.b,.int .i64 a.d,.int .i64 a.s,.int .i64 a.e,.int .u8 a.k.a,.int .u8 a.k.b,.int .u8 a.k.c,.int .u8 a.k.d,.int .u8 a.k.e,.int .u8 a.k.f,.int .u8 a.k.g,.int .u8 a.k.h,.int .u8 a.n.a,.int .u8 a.n.b,.int .u8 a.n.c,.int .u8 a.n.d,.int .u8 a.n.e,.int .u8 a.n.f,.int .u8 a.n.g,.int .u8 a.n.h,.bool false,.slice 1 (ints a.u)],.none]⟩) (fun k=>k≤a.u.length∧ckA a false=ckU (a.u.drop k) (prv a.u k)) (fun k=>a.u.length - k) 0 rfl ⟨Nat.zero_le _,h0⟩ ?_
  rintro k ⟨hk,hi⟩
  have hk:k≤a.u.length:=hk
  dsimp only
  clear t1 h0 c96_ w1 w2 w3 w4
  by_cases hkn:k < a.u.length
  ·refine Exists.elim (get_lt a.u hkn) fun x hx=>?_
   have hx1:=ints_at hx
   rw [drop_at hx,ckU] at hi
   have c98_:=c98 x
   have hp:prv a.u (k+1)=x:=by show a.u[k]?.getD 0=x; rw [hx]; rfl
   have fin:ckA a false=ckU (a.u.drop (k+1)) x→∃ a':Nat,((a'≤a.u.length∧ckA a false=ckU (a.u.drop a') (prv a.u a'))∧a.u.length - a' < a.u.length - k)∧(⟨[(1,.ptr 0 0),(4,.d (.int .i64 ((k:Int)+1)))],[.cbox [.int .i64 a.b,.int .i64 a.d,.int .i64 a.s,.int .i64 a.e,.int .u8 a.k.a,.int .u8 a.k.b,.int .u8 a.k.c,.int .u8 a.k.d,.int .u8 a.k.e,.int .u8 a.k.f,.int .u8 a.k.g,.int .u8 a.k.h,.int .u8 a.n.a,.int .u8 a.n.b,.int .u8 a.n.c,.int .u8 a.n.d,.int .u8 a.n.e,.int .u8 a.n.f,.int .u8 a.n.g,.int .u8 a.n.h,.bool false,.slice 1 (ints a.u)],.none]⟩:St)=⟨[(1,.ptr 0 0),(4,.d (.int .i64 ((a':Nat))))],[.cbox [.int .i64 a.b,.int .i64 a.d,.int .i64 a.s,.int .i64 a.e,.int .u8 a.k.a,.int .u8 a.k.b,.int .u8 a.k.c,.int .u8 a.k.d,.int .u8 a.k.e,.int .u8 a.k.f,.int .u8 a.k.g,.int .u8 a.k.h,.int .u8 a.n.a,.int .u8 a.n.b,.int .u8 a.n.c,.int .u8 a.n.d,.int .u8 a.n.e,.int .u8 a.n.f,.int .u8 a.n.g,.int .u8 a.n.h,.bool false,.slice 1 (ints a.u)],.none]⟩:=fun h=>⟨k+1,⟨⟨by omega,by rw [hp]; exact h⟩,by omega⟩,rfl⟩
   cases k with
   | zero =>
    refine sd ?_
    refine b_lt (fun t1=>?_) (fun t1=>?_)
    refine ix_at hx1 ?_ ?_
    (show (0:Int)≤(↑(0:Nat):Int); omega)
    refine ca c98_ ?_
    refine sd ?_
    refine b_ne (fun t2=>?_) (fun t2=>?_)
    rotate_left
    refine sd ?_
    refine sd ?_
    refine ar_add ?_ ?_
    refine an ?_ ?_
    (show (-9223372036854775808:Int)≤(↑(0:Nat):Int)+(1:Int); omega)
    (show (↑(0:Nat):Int)+(1:Int)≤(9223372036854775807:Int); omega)
    rotate_left
    (exfalso; omega)
    exact ckU_w hi t2
    exact fin (ckU_n hi t2 (by have:=(within_ok t2).1; show ¬ x≤0; omega))
   | succ j =>
    refine Exists.elim (get_lt a.u (k:=j) (by omega)) fun y hy=>?_
    have hy1:(ints a.u)[((((j+1:Nat):Int)) - 1).toNat]?=some (.int .i64 y):=by rw [show ((((j+1:Nat):Int)) - 1).toNat=((j:Nat):Int).toNat by omega]; exact ints_at hy
    have hq:prv a.u (j+1)=y:=by show a.u[j]?.getD 0=y; rw [hy]; rfl
    rw [hq] at hi
    refine sd ?_
    refine b_lt (fun t1=>?_) (fun t1=>?_)
    refine ix_at hx1 ?_ ?_
    (show (0:Int)≤(↑(j+(1:Nat)):Int); omega)
    refine ca c98_ ?_
    refine sd ?_
    refine b_ne (fun t2=>?_) (fun t2=>?_)
    rotate_left
    refine sd ?_
    refine b_lt (fun t3=>?_) (fun t3=>?_)
    refine ix_at hx1 ?_ ?_
    (show (0:Int)≤(↑(j+(1:Nat)):Int); omega)
    refine ar_sub ?_ ?_
    refine an ?_ ?_
    (show (-9223372036854775808:Int)≤(↑(j+(1:Nat)):Int) - (1:Int); omega)
    (show (↑(j+(1:Nat)):Int) - (1:Int)≤(9223372036854775807:Int); omega)
    refine ix_at hy1 ?_ ?_
    (show (0:Int)≤(↑(j+(1:Nat)):Int) - (1:Int); omega)
    refine sd ?_
    refine b_le (fun t4=>?_) (fun t4=>?_)
    rotate_left
    refine ar_add ?_ ?_
    refine an ?_ ?_
    (show (-9223372036854775808:Int)≤(↑(j+(1:Nat)):Int)+(1:Int); omega)
    (show (↑(j+(1:Nat)):Int)+(1:Int)≤(9223372036854775807:Int); omega)
    rotate_left
    (exfalso; omega)
    (exfalso; omega)
    exact ckU_w hi t2
    exact resC (ckU_o hi t2 t4)
    exact fin (ckU_n hi t2 t4)
  ·have e:k=a.u.length:=by omega
   subst e
   rw [List.drop_eq_nil_of_le (Nat.le_refl _)] at hi
   have hi:ckA a false=0:=hi
   rw [hi]
   refine sd ?_
   refine b_lt (fun t1=>?_) (fun t1=>?_)
   (exfalso; omega)
   exact rfl
 ·refine call_of_vc (x:=jr20) (by kernel_rfl) rfl ?_
  refine ca (c22 _ _ _) ?_
  refine ca (c22 _ _ _) ?_
  refine ca (c22 _ _ _) ?_
  refine ca (c22 _ _ _) ?_
  refine sd ?_
  refine ca (c97 _ _) ?_
  refine sd ?_
  refine ca (c97 _ _) ?_
  refine sd ?_
  refine sd ?_
  refine ca c96_ ?_
  refine sd ?_
  refine b_ne (fun t1=>?_) (fun t1=>?_)
  replace t1:¬firstOf [within3 (Ac.b a) (-1000000000000:Int) (1000000000000:Int),within3 (Ac.d a) (0:Int) (1000000000000:Int),within3 (Ac.s a) (0:Int) (100:Int),within3 (Ac.e a) (0:Int) (100000000:Int),(0:Int),bif decide ((256:Int) < (↑(List.length (ints (Ac.u a))):Int)) then (5:Int) else (0:Int)]=(0:Int):=t1
  rotate_left
  replace t1:firstOf [within3 (Ac.b a) (-1000000000000:Int) (1000000000000:Int),within3 (Ac.d a) (0:Int) (1000000000000:Int),within3 (Ac.s a) (0:Int) (100:Int),within3 (Ac.e a) (0:Int) (100000000:Int),(0:Int),bif decide ((256:Int) < (↑(List.length (ints (Ac.u a))):Int)) then (5:Int) else (0:Int)]=(0:Int):=t1
  rotate_left
  exact ckA_f (a:=a) (c:=true) t1
  have h0:=ckA_0 (a:=a) (c:=true) t1
  refine loop_st (fun k:Nat=>⟨[(1,.ptr 0 0),(4,.d (.int .i64 ((k:Nat))))],[.cbox [.int .i64 a.b,.int .i64 a.d,.int .i64 a.s,.int .i64 a.e,.int .u8 a.k.a,.int .u8 a.k.b,.int .u8 a.k.c,.int .u8 a.k.d,.int .u8 a.k.e,.int .u8 a.k.f,.int .u8 a.k.g,.int .u8 a.k.h,.int .u8 a.n.a,.int .u8 a.n.b,.int .u8 a.n.c,.int .u8 a.n.d,.int .u8 a.n.e,.int .u8 a.n.f,.int .u8 a.n.g,.int .u8 a.n.h,.bool true,.slice 1 (ints a.u)],.none]⟩) (fun k=>k≤a.u.length∧ckA a true=ckU (a.u.drop k) (prv a.u k)) (fun k=>a.u.length - k) 0 rfl ⟨Nat.zero_le _,h0⟩ ?_
  rintro k ⟨hk,hi⟩
  have hk:k≤a.u.length:=hk
  dsimp only
  clear t1 h0 c96_ w1 w2 w3 w4
  by_cases hkn:k < a.u.length
  ·refine Exists.elim (get_lt a.u hkn) fun x hx=>?_
   have hx1:=ints_at hx
   rw [drop_at hx,ckU] at hi
   have c98_:=c98 x
   have hp:prv a.u (k+1)=x:=by show a.u[k]?.getD 0=x; rw [hx]; rfl
   have fin:ckA a true=ckU (a.u.drop (k+1)) x→∃ a':Nat,((a'≤a.u.length∧ckA a true=ckU (a.u.drop a') (prv a.u a'))∧a.u.length - a' < a.u.length - k)∧(⟨[(1,.ptr 0 0),(4,.d (.int .i64 ((k:Int)+1)))],[.cbox [.int .i64 a.b,.int .i64 a.d,.int .i64 a.s,.int .i64 a.e,.int .u8 a.k.a,.int .u8 a.k.b,.int .u8 a.k.c,.int .u8 a.k.d,.int .u8 a.k.e,.int .u8 a.k.f,.int .u8 a.k.g,.int .u8 a.k.h,.int .u8 a.n.a,.int .u8 a.n.b,.int .u8 a.n.c,.int .u8 a.n.d,.int .u8 a.n.e,.int .u8 a.n.f,.int .u8 a.n.g,.int .u8 a.n.h,.bool true,.slice 1 (ints a.u)],.none]⟩:St)=⟨[(1,.ptr 0 0),(4,.d (.int .i64 ((a':Nat))))],[.cbox [.int .i64 a.b,.int .i64 a.d,.int .i64 a.s,.int .i64 a.e,.int .u8 a.k.a,.int .u8 a.k.b,.int .u8 a.k.c,.int .u8 a.k.d,.int .u8 a.k.e,.int .u8 a.k.f,.int .u8 a.k.g,.int .u8 a.k.h,.int .u8 a.n.a,.int .u8 a.n.b,.int .u8 a.n.c,.int .u8 a.n.d,.int .u8 a.n.e,.int .u8 a.n.f,.int .u8 a.n.g,.int .u8 a.n.h,.bool true,.slice 1 (ints a.u)],.none]⟩:=fun h=>⟨k+1,⟨⟨by omega,by rw [hp]; exact h⟩,by omega⟩,rfl⟩
   cases k with
   | zero =>
    refine sd ?_
    refine b_lt (fun t1=>?_) (fun t1=>?_)
    refine ix_at hx1 ?_ ?_
    (show (0:Int)≤(↑(0:Nat):Int); omega)
    refine ca c98_ ?_
    refine sd ?_
    refine b_ne (fun t2=>?_) (fun t2=>?_)
    rotate_left
    refine sd ?_
    refine sd ?_
    refine ar_add ?_ ?_
    refine an ?_ ?_
    (show (-9223372036854775808:Int)≤(↑(0:Nat):Int)+(1:Int); omega)
    (show (↑(0:Nat):Int)+(1:Int)≤(9223372036854775807:Int); omega)
    rotate_left
    (exfalso; omega)
    exact ckU_w hi t2
    exact fin (ckU_n hi t2 (by have:=(within_ok t2).1; show ¬ x≤0; omega))
   | succ j =>
    refine Exists.elim (get_lt a.u (k:=j) (by omega)) fun y hy=>?_
    have hy1:(ints a.u)[((((j+1:Nat):Int)) - 1).toNat]?=some (.int .i64 y):=by rw [show ((((j+1:Nat):Int)) - 1).toNat=((j:Nat):Int).toNat by omega]; exact ints_at hy
    have hq:prv a.u (j+1)=y:=by show a.u[j]?.getD 0=y; rw [hy]; rfl
    rw [hq] at hi
    refine sd ?_
    refine b_lt (fun t1=>?_) (fun t1=>?_)
    refine ix_at hx1 ?_ ?_
    (show (0:Int)≤(↑(j+(1:Nat)):Int); omega)
    refine ca c98_ ?_
    refine sd ?_
    refine b_ne (fun t2=>?_) (fun t2=>?_)
    rotate_left
    refine sd ?_
    refine b_lt (fun t3=>?_) (fun t3=>?_)
    refine ix_at hx1 ?_ ?_
    (show (0:Int)≤(↑(j+(1:Nat)):Int); omega)
    refine ar_sub ?_ ?_
    refine an ?_ ?_
    (show (-9223372036854775808:Int)≤(↑(j+(1:Nat)):Int) - (1:Int); omega)
    (show (↑(j+(1:Nat)):Int) - (1:Int)≤(9223372036854775807:Int); omega)
    refine ix_at hy1 ?_ ?_
    (show (0:Int)≤(↑(j+(1:Nat)):Int) - (1:Int); omega)
    refine sd ?_
    refine b_le (fun t4=>?_) (fun t4=>?_)
    rotate_left
    refine ar_add ?_ ?_
    refine an ?_ ?_
    (show (-9223372036854775808:Int)≤(↑(j+(1:Nat)):Int)+(1:Int); omega)
    (show (↑(j+(1:Nat)):Int)+(1:Int)≤(9223372036854775807:Int); omega)
    rotate_left
    (exfalso; omega)
    (exfalso; omega)
    exact ckU_w hi t2
    exact resC (ckU_o hi t2 t4)
    exact fin (ckU_n hi t2 t4)
  ·have e:k=a.u.length:=by omega
   subst e
   rw [List.drop_eq_nil_of_le (Nat.le_refl _)] at hi
   have hi:ckA a true=0:=hi
   rw [hi]
   refine sd ?_
   refine b_lt (fun t1=>?_) (fun t1=>?_)
   (exfalso; omega)
   exact rfl
end Vc
