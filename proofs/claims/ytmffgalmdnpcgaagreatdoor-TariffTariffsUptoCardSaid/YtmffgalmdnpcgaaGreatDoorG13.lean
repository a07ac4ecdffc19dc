import Derived.Test.YtmffgalmdnpcgaaGreatDoorG12
set_option linter.unusedSectionVars false
set_option linter.unusedVariables false
set_option linter.unusedSimpArgs false
set_option maxRecDepth 10000
set_option maxHeartbeats 4000000
namespace Vc
open Go Go.Proofs
def tfD (t:Tf):Data:=.agg [.slice 1 (ints t.p),.slice 1 (tys t.t),.slice 8 (seas t.s),.slice 2 (sws t.b)]
def tfE (t:Tf):Int:=bif firstOf [cntE t.p.length 8,firstOf (t.p.map prE),cntE t.t.length 8] != 0 then firstOf [cntE t.p.length 8,firstOf (t.p.map prE),cntE t.t.length 8]
 else firstOf [firstOf (t.t.map (tyE t.p.length)),seasE t.t.length t.s,blsE t.b]
structure Tf.ok (u:Tf):Prop where
 lp:u.p.length≤1048576
 lt:u.t.length≤1048576
 lr:∀ x∈u.t,x.length≤1048576
 ls:u.s.length≤1048576
 lb:u.b.length≤1048576
def jr28:AFun:=⟨39,3,[.tmp 2],
 (.seq
 (.reg [0] [⟨some 1,.cbx 0 4 (.tmp 0),none⟩,
  ⟨some 2,.mov (.cst (.d (.int .i64 0))),none⟩])
 (.seq
  (.seq
  (.regd [1] [⟨some 5,.fad 0 (.tmp 1),none⟩,
   ⟨some 6,.ld false 1 (.tmp 5),none⟩,
   ⟨some 7,.len (.tmp 6),none⟩,
   ⟨some 8,.call 99 [(.tmp 7),(.cst (.d (.int .i64 8)))],none⟩,
   ⟨some 9,.fad 0 (.tmp 1),none⟩,
   ⟨some 10,.ld false 1 (.tmp 9),none⟩,
   ⟨some 11,.call 100 [(.tmp 10),(.cst (.d (.fn (.func 101) [])))],none⟩,
   ⟨some 12,.call 96 [(.tmp 11)],none⟩,
   ⟨some 13,.fad 1 (.tmp 1),none⟩,
   ⟨some 14,.ld false 1 (.tmp 13),none⟩,
   ⟨some 15,.len (.tmp 14),none⟩,
   ⟨some 16,.call 99 [(.tmp 15),(.cst (.d (.int .i64 8)))],none⟩,
   ⟨some 17,.bsl 1 34 1 3 [(.int .i64 0),(.int .i64 0),(.int .i64 0)] [(0,(.tmp 8)),(1,(.tmp 12)),(2,(.tmp 16))],none⟩,
   ⟨some 18,.call 96 [(.tmp 17)],none⟩,
   ⟨some 3,.mov (.tmp 18),none⟩] [(0,4),(1,4),(2,4),(3,4),(0,5),(1,5),(2,5),(3,5),(0,8),(1,8),(2,8),(3,8),(4,8),(5,8),(6,8),(7,8),(0,9),(1,9),(2,9),(3,9),(4,9),(5,9),(6,9),(7,9),(0,10),(1,10),(2,10),(3,10),(4,10),(5,10),(6,10),(7,10)])
  (.seq
   (.reg [] [⟨some 19,.mov (.tmp 3),none⟩,
    ⟨some 20,.cmp .neq (.tmp 19) (.cst (.d (.int .i64 0))),none⟩])
   (.cond (.tmp 20)
   (.seq
    (.reg [] [⟨some 21,.mov (.tmp 3),none⟩,
     ⟨some 2,.mov (.tmp 21),none⟩])
    .ret)
   .skip)))
  (.seq
  (.reg [] [⟨some 22,.fad 1 (.tmp 1),none⟩,
   ⟨some 23,.ld false 1 (.tmp 22),none⟩,
   ⟨some 24,.mkf (.func 103) [] [(.tmp 1)],none⟩,
   ⟨some 25,.call 102 [(.tmp 23),(.tmp 24)],none⟩,
   ⟨some 4,.mov (.tmp 25),none⟩])
  (.seq
   (.regd [2] [⟨some 26,.mov (.tmp 4),none⟩,
    ⟨some 27,.call 96 [(.tmp 26)],none⟩,
    ⟨some 28,.fad 2 (.tmp 1),none⟩,
    ⟨some 29,.ld false 1 (.tmp 28),none⟩,
    ⟨some 30,.fad 1 (.tmp 1),none⟩,
    ⟨some 31,.ld false 1 (.tmp 30),none⟩,
    ⟨some 32,.len (.tmp 31),none⟩,
    ⟨some 33,.call 105 [(.tmp 29),(.tmp 32)],none⟩,
    ⟨some 34,.fad 3 (.tmp 1),none⟩,
    ⟨some 35,.ld false 1 (.tmp 34),none⟩,
    ⟨some 36,.call 106 [(.tmp 35)],none⟩,
    ⟨some 37,.bsl 2 34 1 3 [(.int .i64 0),(.int .i64 0),(.int .i64 0)] [(0,(.tmp 27)),(1,(.tmp 33)),(2,(.tmp 36))],none⟩,
    ⟨some 38,.call 96 [(.tmp 37)],none⟩,
    ⟨some 2,.mov (.tmp 38),none⟩] [(0,2),(1,2),(0,3),(1,3),(0,4),(1,4),(2,4),(3,4),(0,5),(1,5),(2,5),(3,5),(0,6),(1,6),(2,6),(3,6),(0,8),(1,8),(2,8),(3,8),(4,8),(5,8),(6,8),(7,8),(0,9),(1,9),(2,9),(3,9),(4,9),(5,9),(6,9),(7,9)])
   .ret))))⟩
theorem c103 (t:Tf) (l:List (Int × Int)) (hl:l.length≤1048576):CallDet Tryz.prog 103 [.d (.slice 2 (sws l)),.cp [.slice 1 (ints t.p),.slice 1 (tys t.t),.slice 8 (seas t.s),.slice 2 (sws t.b)] 0] [.int .i64 (tyE t.p.length l)]:=by
 have hlen:(ints t.p).length=t.p.length:=by simp [ints]
 have c104_:=c104 l hl (t.p.length:Nat)
 rw [← hlen] at c104_ ⊢
 refine call_of_vc (x:=jr103) (by kernel_rfl) rfl ?_
 refine ca c104_ ?_
 exact rfl
theorem c102 (t:Tf) (l:List (List (Int × Int))) (hr:∀ x∈l,x.length≤1048576) (hl:l.length≤1048576):CallDet Tryz.prog 102 [.d (.slice 1 (tys l)),.d (.fn (.func 103) [.agg [.slice 1 (ints t.p),.slice 1 (tys t.t),.slice 8 (seas t.s),.slice 2 (sws t.b)]])] [.slice 1 (ints (l.map (tyE t.p.length)))]:=by
 have hlen:(tys l).length=l.length:=List.length_map _
 refine call_of_vc (x:=jr102) (by kernel_rfl) rfl ?_
 refine loop_st (fun k:Nat=>⟨[(1,.d (.fn (.func 103) [.agg [.slice 1 (ints t.p),.slice 1 (tys t.t),.slice 8 (seas t.s),.slice 2 (sws t.b)]])),(5,.sl 1 (ints ((l.take k).map (tyE t.p.length))).length),(8,.d (.slice 1 (tys l))),(9,.d (.int .i64 (((tys l).length:Nat):Int))),(10,.d (.int .i64 ((k:Nat))))],[.none,.row 34 1 (ints ((l.take k).map (tyE t.p.length))) false]⟩) (fun k=>k≤l.length) (fun k=>l.length - k) 0 rfl (Nat.zero_le _) ?_
 rintro k hk
 have hk:k≤l.length:=hk
 have hDl:(ints ((l.take k).map (tyE t.p.length))).length=k:=by simp [ints,sws,tys,seas]; omega
 dsimp only
 by_cases hkn:k < l.length
 ·refine Exists.elim (get_lt l hkn) fun x hx=>?_
  have hx1:=tys_at hx
  have c103_:=c103 t x (hr x (List.mem_of_getElem? hx))
  have fin:∃ a':Nat,(a'≤l.length∧l.length - a' < l.length - k)∧(⟨[(1,.d (.fn (.func 103) [.agg [.slice 1 (ints t.p),.slice 1 (tys t.t),.slice 8 (seas t.s),.slice 2 (sws t.b)]])),(5,.sl 1 (ints ((l.take k).map (tyE t.p.length))++[Data.int .i64 (tyE t.p.length x)]).length),(8,.d (.slice 1 (tys l))),(9,.d (.int .i64 (((tys l).length:Nat):Int))),(10,.d (.int .i64 ((k:Int)+1)))],[.none,.row 34 1 (ints ((l.take k).map (tyE t.p.length))++[Data.int .i64 (tyE t.p.length x)]) false]⟩:St)=⟨[(1,.d (.fn (.func 103) [.agg [.slice 1 (ints t.p),.slice 1 (tys t.t),.slice 8 (seas t.s),.slice 2 (sws t.b)]])),(5,.sl 1 (ints ((l.take a').map (tyE t.p.length))).length),(8,.d (.slice 1 (tys l))),(9,.d (.int .i64 (((tys l).length:Nat):Int))),(10,.d (.int .i64 ((a':Nat))))],[.none,.row 34 1 (ints ((l.take a').map (tyE t.p.length))) false]⟩:=⟨k+1,⟨by omega,by omega⟩,by rw [take_map_succ (tyE t.p.length) hx,← ints_snoc]; rfl⟩
  refine sd ?_
  refine b_lt (fun t1=>?_) (fun t1=>?_)
  refine ix_at hx1 ?_ ?_
  (show (0:Int)≤(↑k:Int); omega)
  refine ca c103_ ?_
  refine sd ?_
  refine sd ?_
  refine sd ?_
  refine an ?_ ?_
  refine an ?_ ?_
  exact rfl
  refine an ?_ ?_
  exact rfl
  refine an ?_ ?_
  exact rfl
  refine an ?_ ?_
  (show (List.length (ints (List.map (tyE (↑(List.length (Tf.p t)):Int)) (List.take k l)))+(1:Nat)) * (8:Nat)≤(2:Nat) ^ (47:Nat); omega)
  (show List.length (ints (List.map (tyE (↑(List.length (Tf.p t)):Int)) (List.take k l)))+(1:Nat)≤(2:Nat) ^ (47:Nat); omega)
  refine ar_add ?_ ?_
  refine an ?_ ?_
  (show (-9223372036854775808:Int)≤(↑k:Int)+(1:Int); omega)
  (show (↑k:Int)+(1:Int)≤(9223372036854775807:Int); omega)
  rotate_left
  (exfalso; omega)
  all_goals exact fin
 ·have e:k=l.length:=by omega
  subst e
  rw [List.take_length]
  refine sd ?_
  refine b_lt (fun t1=>?_) (fun t1=>?_)
  (exfalso; omega)
  refine sd ?_
  exact rfl
theorem c28 (t:Tf) (h:t.ok):CallDet Tryz.prog 28 [.d (tfD t)] [.int .i64 (tfE t)]:=by
 have hlp:(ints t.p).length=t.p.length:=by simp [ints]
 have hlt:=tys_len t.t
 have c99_1:=c99 (t.p.length:Nat) 8
 have c99_2:=c99 (t.t.length:Nat) 8
 have c100_:=c100 t.p h.lp
 have c96_1:=c96 (t.p.map prE) (by rw [List.length_map]; have:=h.lp; omega)
 have c96_2:CallDet Tryz.prog 96 [.d (.slice 1 [.int .i64 (cntE t.p.length 8),.int .i64 (firstOf (t.p.map prE)),.int .i64 (cntE t.t.length 8)])] _:=c96 [cntE t.p.length 8,firstOf (t.p.map prE),cntE t.t.length 8] (by simp)
 have c102_:=c102 t t.t h.lr h.lt
 have c96_3:=c96 (t.t.map (tyE t.p.length)) (by rw [List.length_map]; have:=h.lt; omega)
 have c105_:=c105 t.s h.ls (t.t.length:Nat)
 have c106_:=c106 t.b h.lb
 have c96_4:CallDet Tryz.prog 96 [.d (.slice 1 [.int .i64 (firstOf (t.t.map (tyE t.p.length))),.int .i64 (seasE t.t.length t.s),.int .i64 (blsE t.b)])] _:=c96 [firstOf (t.t.map (tyE t.p.length)),seasE t.t.length t.s,blsE t.b] (by simp)
 rw [← hlp] at c99_1
 rw [← hlt] at c99_2 c105_
 rw [← hlp,← hlt] at c96_2
 rw [← hlt] at c96_4
 refine call_of_vc (x:=jr28) (by kernel_rfl) rfl ?_
 refine ca c99_1 ?_
 refine ca c100_ ?_
 refine ca c96_1 ?_
 refine ca c99_2 ?_
 refine sd ?_
 refine sd ?_
 refine ca c96_2 ?_
 refine sd ?_
 refine b_ne (fun t1=>?_) (fun t1=>?_)
 rotate_left
 refine ca c102_ ?_
 refine ca c96_3 ?_
 refine ca c105_ ?_
 refine ca c106_ ?_
 refine sd ?_
 refine sd ?_
 refine ca c96_4 ?_
 rotate_left
 ·rw [hlp,hlt] at t1 ⊢
  exact res_c (by unfold tfE; rw [bne_t t1]; rfl)
 ·rw [hlp,hlt] at t1
  rw [hlt]
  exact res_c (by unfold tfE; rw [t1]; rfl)
end Vc
