import Derived.Test.YtmffgalmdnpcgaaGreatDoorG19
set_option linter.unusedSectionVars false
set_option linter.unusedVariables false
set_option linter.unusedSimpArgs false
set_option maxRecDepth 10000
set_option maxHeartbeats 4000000
namespace Vc
open Go Go.Proofs
theorem vrs_step {l:List Vr} {k:Nat} {x:Vr} (h:l[k]?=some x):vrs (l.take (k+1))=vrs (l.take k)++[Data.agg [.int .i64 x.fr,.int .i64 x.an,.slice 1 (ints x.t.p),.slice 1 (tys x.t.t),.slice 8 (seas x.t.s),.slice 2 (sws x.t.b)]]:=take_map_succ vrD h
@[irreducible] def seg22a:ACode:=(.post [2,3] [0,1,2,3,4,5]
 (.block 0
 (.keep [2,3,10,11,12] [0,1,2]
 (.loop
 (.post [2,3,10,11,12] [3,4,5]
 (.seq
 (.reg [] [⟨some 13,.cmp .lss (.tmp 12) (.tmp 11),none⟩])
 (.seq
 (.cond (.tmp 13)
 .skip
 (.exit 0))
 (.seq
 (.block 1
 (.seq
 (.reg [3] [⟨some 14,.ixa 6 (.tmp 10) (.tmp 12),none⟩,
 ⟨some 15,.ld true 6 (.tmp 14),none⟩,
 ⟨some 5,.alloc 3 [(.d (.int .i64 0)),(.d (.int .i64 0)),(.nils 1),(.nils 1),(.nils 8),(.nils 2)],none⟩,
 ⟨none,.st 6 (.tmp 5) (.tmp 15),none⟩])
 (.regd [4,5] [⟨some 16,.fad 1 (.tmp 3),none⟩,
 ⟨some 17,.ld false 1 (.tmp 16),none⟩,
 ⟨some 18,.fad 0 (.tmp 5),none⟩,
 ⟨some 19,.ld false 1 (.tmp 18),none⟩,
 ⟨some 20,.fad 1 (.tmp 5),none⟩,
 ⟨some 21,.ld false 1 (.tmp 20),none⟩,
 ⟨some 22,.fad 2 (.tmp 5),none⟩,
 ⟨some 23,.ld true 4 (.tmp 22),none⟩,
 ⟨some 24,.call 29 [(.tmp 23)],none⟩,
 ⟨some 25,.build [(.d (.int .i64 0)),(.d (.int .i64 0)),(.nils 1),(.nils 1),(.nils 8),(.nils 2)] [(0,1,(.tmp 19)),(1,1,(.tmp 21)),(2,4,(.tmp 24))],none⟩,
 ⟨some 26,.bsl 4 150 6 1 [(.agg [(.int .i64 0),(.int .i64 0),(.slice 1 []),(.slice 1 []),(.slice 8 []),(.slice 2 [])])] [(0,(.tmp 25))],none⟩,
 ⟨some 27,.app 5 150 6 112 (.tmp 17) (.tmp 26),none⟩,
 ⟨some 28,.fad 1 (.tmp 3),none⟩,
 ⟨none,.st 1 (.tmp 28) (.tmp 27),none⟩] [(0,2),(1,2),(0,3),(1,3),(0,4),(1,4),(2,4),(3,4),(0,5),(1,5),(2,5),(3,5),(0,6),(1,6),(2,6),(3,6),(4,6),(5,6),(0,7),(1,7),(2,7),(3,7),(4,7),(5,7),(0,8),(1,8),(2,8),(3,8),(4,8),(5,8),(0,9),(1,9),(0,10),(1,10)])))
 (.reg [] [⟨some 29,.arith .add .i64 (.tmp 12) (.cst (.d (.int .i64 1))),none⟩,
 ⟨some 12,.mov (.tmp 29),none⟩])))))))))
def jr22:AFun:=⟨31,6,[.cell 2 2 true],
 (.seq
 (.reg [0,1] [⟨some 1,.cbx 0 2 (.tmp 0),none⟩,
  ⟨some 2,.alloc 1 [(.d (.int .i64 0)),(.nils 6)],none⟩])
 (.seq
  (.reg [2] [⟨some 6,.fad 0 (.tmp 1),none⟩,
   ⟨some 7,.ld false 1 (.tmp 6),none⟩,
   ⟨some 8,.build [(.d (.int .i64 0)),(.nils 6)] [(0,1,(.tmp 7))],none⟩,
   ⟨some 3,.alloc 2 [(.d (.int .i64 0)),(.nils 6)],none⟩,
   ⟨none,.st 2 (.tmp 3) (.tmp 8),none⟩])
  (.seq
  (.seq
   (.reg [] [⟨some 9,.fad 1 (.tmp 1),none⟩,
    ⟨some 10,.ld false 1 (.tmp 9),none⟩,
    ⟨some 11,.len (.tmp 10),none⟩,
    ⟨some 12,.mov (.cst (.d (.int .i64 0))),none⟩])
   (.keep [2,3,10,11,12] [0] seg22a))
  (.seq
   (.reg [] [⟨some 30,.ld true 2 (.tmp 3),none⟩,
    ⟨none,.st 2 (.tmp 2) (.tmp 30),none⟩])
   .ret))))⟩
def jr19:AFun:=⟨40,1,[.tmp 2],
 (.seq
 (.reg [0] [⟨some 1,.cbx 0 4 (.tmp 0),none⟩,
  ⟨some 2,.mov (.cst (.d (.bool false))),none⟩])
 (.seq
  (.seq
  (.reg [] [⟨some 3,.mov (.cst (.d (.int .i64 0))),none⟩])
  (.post [1] [0]
   (.block 0
   (.keep [1,3] [0]
    (.loop
    (.post [1,3] []
     (.seq
     (.seq
      (.reg [] [⟨some 4,.mov (.tmp 3),none⟩,
       ⟨some 5,.fad 1 (.tmp 1),none⟩,
       ⟨some 6,.ld false 1 (.tmp 5),none⟩,
       ⟨some 7,.len (.tmp 6),none⟩,
       ⟨some 8,.cmp .lss (.tmp 4) (.tmp 7),none⟩])
      (.cond (.tmp 8)
      .skip
      (.exit 0)))
     (.seq
      (.block 1
      (.seq
       (.reg [] [⟨some 11,.fad 1 (.tmp 1),none⟩,
        ⟨some 12,.ld false 1 (.tmp 11),none⟩,
        ⟨some 13,.mov (.tmp 3),none⟩,
        ⟨some 14,.ixa 1 (.tmp 12) (.tmp 13),none⟩,
        ⟨some 15,.ld false 1 (.tmp 14),none⟩,
        ⟨some 16,.len (.tmp 15),none⟩,
        ⟨some 17,.cmp .gtr (.tmp 16) (.cst (.d (.int .i64 13))),none⟩])
       (.cond (.tmp 17)
       (.seq
        (.reg [] [⟨some 2,.mov (.cst (.d (.bool false))),none⟩])
        .ret)
       .skip)))
      (.reg [] [⟨some 9,.mov (.tmp 3),none⟩,
       ⟨some 10,.arith .add .i64 (.tmp 9) (.cst (.d (.int .i64 1))),none⟩,
       ⟨some 3,.mov (.tmp 10),none⟩])))))))))
  (.seq
  (.reg [] [⟨some 18,.fad 0 (.tmp 1),none⟩,
   ⟨some 19,.ld false 1 (.tmp 18),none⟩,
   ⟨some 20,.len (.tmp 19),none⟩,
   ⟨some 21,.cmp .leq (.tmp 20) (.cst (.d (.int .i64 9))),none⟩,
   ⟨some 22,.mov (.tmp 21),none⟩,
   ⟨some 23,.fad 1 (.tmp 1),some (22,true)⟩,
   ⟨some 24,.ld false 1 (.tmp 23),some (22,true)⟩,
   ⟨some 25,.len (.tmp 24),some (22,true)⟩,
   ⟨some 26,.cmp .leq (.tmp 25) (.cst (.d (.int .i64 9))),some (22,true)⟩,
   ⟨some 27,.pick (.tmp 22) (.tmp 26) (.cst (.d (.bool false))),none⟩,
   ⟨some 28,.mov (.tmp 27),none⟩,
   ⟨some 29,.fad 2 (.tmp 1),some (28,true)⟩,
   ⟨some 30,.ld false 1 (.tmp 29),some (28,true)⟩,
   ⟨some 31,.len (.tmp 30),some (28,true)⟩,
   ⟨some 32,.cmp .leq (.tmp 31) (.cst (.d (.int .i64 9))),some (28,true)⟩,
   ⟨some 33,.pick (.tmp 28) (.tmp 32) (.cst (.d (.bool false))),none⟩,
   ⟨some 34,.mov (.tmp 33),none⟩,
   ⟨some 35,.fad 3 (.tmp 1),some (34,true)⟩,
   ⟨some 36,.ld false 1 (.tmp 35),some (34,true)⟩,
   ⟨some 37,.len (.tmp 36),some (34,true)⟩,
   ⟨some 38,.cmp .leq (.tmp 37) (.cst (.d (.int .i64 5))),some (34,true)⟩,
   ⟨some 39,.pick (.tmp 34) (.tmp 38) (.cst (.d (.bool false))),none⟩,
   ⟨some 2,.mov (.tmp 39),none⟩])
  .ret)))⟩
def jr20:AFun:=⟨23,1,[.tmp 2],
 (.seq
 (.reg [0] [⟨some 1,.cbx 0 2 (.tmp 0),none⟩,
  ⟨some 2,.mov (.cst (.d (.bool false))),none⟩])
 (.seq
  (.seq
  (.reg [] [⟨some 3,.mov (.cst (.d (.int .i64 0))),none⟩])
  (.post [1] [0]
   (.block 0
   (.keep [1,3] [0]
    (.loop
    (.post [1,3] []
     (.seq
     (.seq
      (.reg [] [⟨some 4,.mov (.tmp 3),none⟩,
       ⟨some 5,.fad 1 (.tmp 1),none⟩,
       ⟨some 6,.ld false 1 (.tmp 5),none⟩,
       ⟨some 7,.len (.tmp 6),none⟩,
       ⟨some 8,.cmp .lss (.tmp 4) (.tmp 7),none⟩])
      (.cond (.tmp 8)
      .skip
      (.exit 0)))
     (.seq
      (.block 1
      (.seq
       (.reg [] [⟨some 11,.fad 1 (.tmp 1),none⟩,
        ⟨some 12,.ld false 1 (.tmp 11),none⟩,
        ⟨some 13,.mov (.tmp 3),none⟩,
        ⟨some 14,.ixa 6 (.tmp 12) (.tmp 13),none⟩,
        ⟨some 15,.fad 2 (.tmp 14),none⟩,
        ⟨some 16,.ld true 4 (.tmp 15),none⟩,
        ⟨some 17,.call 19 [(.tmp 16)],none⟩,
        ⟨some 18,.not (.tmp 17),none⟩])
       (.cond (.tmp 18)
       (.seq
        (.reg [] [⟨some 2,.mov (.cst (.d (.bool false))),none⟩])
        .ret)
       .skip)))
      (.reg [] [⟨some 9,.mov (.tmp 3),none⟩,
       ⟨some 10,.arith .add .i64 (.tmp 9) (.cst (.d (.int .i64 1))),none⟩,
       ⟨some 3,.mov (.tmp 10),none⟩])))))))))
  (.seq
  (.reg [] [⟨some 19,.fad 1 (.tmp 1),none⟩,
   ⟨some 20,.ld false 1 (.tmp 19),none⟩,
   ⟨some 21,.len (.tmp 20),none⟩,
   ⟨some 22,.cmp .leq (.tmp 21) (.cst (.d (.int .i64 9))),none⟩,
   ⟨some 2,.mov (.tmp 22),none⟩])
  .ret)))⟩
def jr32:AFun:=⟨29,0,[.tmp 8],
 (.seq
 (.reg [] [⟨some 8,.mov (.cst (.d (.bool false))),none⟩])
 (.seq
  (.reg [] [⟨some 9,.mov (.tmp 1),none⟩,
   ⟨some 10,.mov (.tmp 2),none⟩,
   ⟨some 11,.cmp .eql (.tmp 9) (.tmp 10),none⟩,
   ⟨some 12,.mov (.tmp 11),none⟩,
   ⟨some 13,.mov (.tmp 2),some (12,true)⟩,
   ⟨some 14,.cmp .neq (.tmp 13) (.cst (.d (.int .i64 0))),some (12,true)⟩,
   ⟨some 15,.mov (.tmp 14),some (12,true)⟩,
   ⟨some 16,.mov (.tmp 0),some (15,true)⟩,
   ⟨some 17,.cmp .eql (.tmp 16) (.cst (.d (.int .i64 0))),some (15,true)⟩,
   ⟨some 18,.pick (.tmp 15) (.tmp 17) (.cst (.d (.bool false))),some (12,true)⟩,
   ⟨some 19,.mov (.tmp 18),some (12,true)⟩,
   ⟨some 20,.mov (.tmp 2),some (19,false)⟩,
   ⟨some 21,.cmp .eql (.tmp 20) (.cst (.d (.int .i64 0))),some (19,false)⟩,
   ⟨some 22,.mov (.tmp 21),some (19,false)⟩,
   ⟨some 23,.mov (.tmp 0),some (22,true)⟩,
   ⟨some 24,.mov (.tmp 3),some (22,true)⟩,
   ⟨some 25,.cmp .eql (.tmp 23) (.tmp 24),some (22,true)⟩,
   ⟨some 26,.pick (.tmp 22) (.tmp 25) (.cst (.d (.bool false))),some (19,false)⟩,
   ⟨some 27,.pick (.tmp 19) (.cst (.d (.bool true))) (.tmp 26),some (12,true)⟩,
   ⟨some 28,.pick (.tmp 12) (.tmp 27) (.cst (.d (.bool false))),none⟩,
   ⟨some 8,.mov (.tmp 28),none⟩])
  .ret))⟩
theorem v22a {N:Nat} {no:Int} {l:List Vr} (hr:∀ x∈l,x.t.ok) (hl:l.length≤1048576) {Q:AExit→St→Prop} (hQ:Q .normal ⟨[(2,.ptr 1 0),(3,.ptr 2 0)],[.none,.box [.d (.int .i64 0),.nils 6],.box [.d (.int .i64 no),(cN 6 5 l.length)],.none,.none,(oN 150 6 (fun k=>vrs (l.take k)) l.length)]⟩):vc Tryz.prog N seg22a ⟨[(2,.ptr 1 0),(3,.ptr 2 0),(10,.d (.slice 6 (vrs l))),(11,.d (.int .i64 (((vrs l).length:Nat):Int))),(12,.d (.int .i64 (0)))],[.none,.box [.d (.int .i64 0),.nils 6],.box [.d (.int .i64 no),.nils 6],.none,.none,.none]⟩ Q:=by
 unfold seg22a
 have hlo:=vrs_len l
 refine loop_st (fun k:Nat=>⟨[(2,.ptr 1 0),(3,.ptr 2 0),(10,.d (.slice 6 (vrs l))),(11,.d (.int .i64 (((vrs l).length:Nat):Int))),(12,.d (.int .i64 ((k:Nat))))],[.none,.box [.d (.int .i64 0),.nils 6],.box [.d (.int .i64 no),(cN 6 5 k)],.none,.none,(oN 150 6 (fun k=>vrs (l.take k)) k)]⟩) (fun k=>k≤(l).length) (fun k=>(l).length - k) 0 rfl (Nat.zero_le _) ?_
 intro k hk
 have hk:k≤(l).length:=hk
 have hlr:(vrs ((l).take k)).length=k:=by rw [vrs_len,List.length_take]; omega
 dsimp only
 by_cases hkn:k < (l).length
 ·refine Exists.elim (get_lt (l) hkn) fun x hx=>?_
  have hx1:=vrs_at hx
  have hst:=vrs_step hx
  have fin:∀ (W:List Data) (q:Nat),W=vrs ((l).take (k+1))→q=k+1→∃ a':Nat,(a'≤(l).length∧(l).length - a' < (l).length - k)∧(⟨[(2,.ptr 1 0),(3,.ptr 2 0),(10,.d (.slice 6 (vrs l))),(11,.d (.int .i64 (((vrs l).length:Nat):Int))),(12,.d (.int .i64 (((k:Int)+1))))],[.none,.box [.d (.int .i64 0),.nils 6],.box [.d (.int .i64 no),.sl 5 q],.none,.none,.row 150 6 W false]⟩:St)=⟨[(2,.ptr 1 0),(3,.ptr 2 0),(10,.d (.slice 6 (vrs l))),(11,.d (.int .i64 (((vrs l).length:Nat):Int))),(12,.d (.int .i64 ((a':Nat))))],[.none,.box [.d (.int .i64 0),.nils 6],.box [.d (.int .i64 no),(cN 6 5 a')],.none,.none,(oN 150 6 (fun k=>vrs (l.take k)) a')]⟩:=fun W q e1 e2 =>
   ⟨k+1,⟨by omega,by omega⟩,by rw [e1,e2]; rfl⟩
  rcases Nat.eq_zero_or_pos k with hz | hz
  ·subst hz
   have fin:=fin ([Data.agg [.int .i64 x.fr,.int .i64 x.an,.slice 1 (ints x.t.p),.slice 1 (tys x.t.t),.slice 8 (seas x.t.s),.slice 2 (sws x.t.b)]]) 1 hst.symm rfl
   have c29_:CallDet Tryz.prog 29 [.d (.agg [.slice 1 (ints x.t.p),.slice 1 (tys x.t.t),.slice 8 (seas x.t.s),.slice 2 (sws x.t.b)])] [.agg [.slice 1 (ints x.t.p),.slice 1 (tys x.t.t),.slice 8 (seas x.t.s),.slice 2 (sws x.t.b)]]:=c29 x.t (hr x (List.mem_of_getElem? hx))
   refine sd ?_
   refine b_lt (fun t1=>?_) (fun t1=>?_)
   refine ix_at hx1 ?_ ?_
   (show (0:Int)≤(↑(0:Nat):Int); omega)
   refine ca c29_ ?_
   refine sd ?_
   refine sd ?_
   refine sd ?_
   refine an ?_ ?_
   refine an ?_ ?_
   (show (1:Nat) * (112:Nat)≤(2:Nat) ^ (47:Nat); omega)
   (show (1:Nat)≤(2:Nat) ^ (47:Nat); omega)
   refine sd ?_
   refine ar_add ?_ ?_
   refine an ?_ ?_
   (show (-9223372036854775808:Int)≤(↑(0:Nat):Int)+(1:Int); omega)
   (show (↑(0:Nat):Int)+(1:Int)≤(9223372036854775807:Int); omega)
   rotate_left
   (exfalso; omega)
   all_goals exact fin
  ·rw [cN_pos hz,oN_pos hz]
   have fin:=fin _ (vrs ((l).take k)++[Data.agg [.int .i64 x.fr,.int .i64 x.an,.slice 1 (ints x.t.p),.slice 1 (tys x.t.t),.slice 8 (seas x.t.s),.slice 2 (sws x.t.b)]]).length hst.symm (by rw [List.length_append,hlr]; rfl)
   clear hst
   generalize vrs ((l).take k)=W at *
   have c29_:CallDet Tryz.prog 29 [.d (.agg [.slice 1 (ints x.t.p),.slice 1 (tys x.t.t),.slice 8 (seas x.t.s),.slice 2 (sws x.t.b)])] [.agg [.slice 1 (ints x.t.p),.slice 1 (tys x.t.t),.slice 8 (seas x.t.s),.slice 2 (sws x.t.b)]]:=c29 x.t (hr x (List.mem_of_getElem? hx))
   refine sd ?_
   refine b_lt (fun t1=>?_) (fun t1=>?_)
   refine ix_at hx1 ?_ ?_
   (show (0:Int)≤(↑k:Int); omega)
   refine ca c29_ ?_
   refine sd ?_
   refine sd ?_
   refine sd ?_
   refine an ?_ ?_
   refine an ?_ ?_
   exact rfl
   refine an ?_ ?_
   exact rfl
   refine an ?_ ?_
   assumption
   refine an ?_ ?_
   (show (List.length W+(1:Nat)) * (112:Nat)≤(2:Nat) ^ (47:Nat); omega)
   (show List.length W+(1:Nat)≤(2:Nat) ^ (47:Nat); omega)
   refine sd ?_
   refine ar_add ?_ ?_
   refine an ?_ ?_
   (show (-9223372036854775808:Int)≤(↑k:Int)+(1:Int); omega)
   (show (↑k:Int)+(1:Int)≤(9223372036854775807:Int); omega)
   rotate_left
   (exfalso; omega)
   all_goals exact fin
 ·have e:k=(l).length:=by omega
  subst e
  rcases Nat.eq_zero_or_pos (l).length with hz | hz
  ·rw [hz] at hQ ⊢
   refine sd ?_
   refine b_lt (fun t1=>?_) (fun t1=>?_)
   (exfalso; omega)
   rotate_left
   exact hQ
  ·rw [cN_pos hz,oN_pos hz] at hQ ⊢
   refine sd ?_
   refine b_lt (fun t1=>?_) (fun t1=>?_)
   (exfalso; omega)
   rotate_left
   exact hQ
theorem c22' (no:Int) (l:List Vr) (hl:l.length≤1048576) (hr:∀ x∈l,x.t.ok):CallDet Tryz.prog 22 [.d (.agg [.int .i64 no,.slice 6 (vrs l)])] [.agg [.int .i64 no,.slice 6 (vrs l)]]:=by
 have hla:=vrs_len l
 have hva:=fun (Q:AExit→St→Prop)=>v22a (N:=31) (no:=no) (l:=l) hr hl (Q:=Q)
 refine call_of_vc (x:=jr22) (by kernel_rfl) rfl ?_
 rcases Nat.eq_zero_or_pos l.length with ha | ha
 ·rw [ha] at hva
  have e:l=[]:=List.eq_nil_of_length_eq_zero ha
  refine hva _ ?_
  rotate_left
  rw [e]
  rfl
 ·rw [cN_pos ha,oN_pos ha,List.take_length] at hva
  refine hva _ ?_
  refine an ?_ ?_
  assumption
  exact rfl
theorem res_b {a b:Bool} (h:a=b):resV [Data.bool a]=resV [Data.bool b]:=by rw [h]
def shT (t:Tf):Bool:=t.t.all (fun l=>decide (l.length≤13))&&(decide (t.p.length≤9)&&decide (t.t.length≤9)&&decide (t.s.length≤9)&&decide (t.b.length≤5))
def shC (l:List Vr):Bool:=l.all (fun v=>shT v.t)&&decide (l.length≤9)
theorem c19 (t:Tf) (h:t.ok):CallDet Tryz.prog 19 [.d (tfD t)] [.bool (shT t)]:=by
 have hlp:(ints t.p).length=t.p.length:=by simp [ints]
 have hlt:=tys_len t.t
 have hls:=seas_len t.s
 have hlb:=sws_len t.b
 have b1:=h.lp
 have b2:=h.lt
 have b3:=h.ls
 have b4:=h.lb
 refine call_of_vc (x:=jr19) (by kernel_rfl) rfl ?_
 refine loop_st (fun k:Nat=>⟨[(1,.ptr 0 0),(3,.d (.int .i64 (k:Int)))],[.cbox [.slice 1 (ints t.p),.slice 1 (tys t.t),.slice 8 (seas t.s),.slice 2 (sws t.b)]]⟩) (fun k=>k≤t.t.length∧t.t.all (fun l=>decide (l.length≤13))=(t.t.drop k).all (fun l=>decide (l.length≤13))) (fun k=>t.t.length - k) 0 rfl ⟨Nat.zero_le _,rfl⟩ ?_
 rintro k ⟨hk,hI⟩
 dsimp only
 by_cases hkn:k < t.t.length
 ·refine Exists.elim (get_lt t.t hkn) fun x hx=>?_
  have hx1:=tys_at hx
  have hlx:=sws_len x
  have hbx:=h.lr x (List.mem_of_getElem? hx)
  rw [drop_at hx,List.all_cons] at hI
  refine sd ?_
  refine b_lt (fun t1=>?_) (fun t1=>?_)
  refine ix_at hx1 ?_ ?_
  (show (0:Int)≤(↑k:Int); omega)
  refine sd ?_
  refine b_lt (fun t2=>?_) (fun t2=>?_)
  rotate_left
  refine ar_add ?_ ?_
  refine an ?_ ?_
  (show (-9223372036854775808:Int)≤(↑k:Int)+(1:Int); omega)
  (show (↑k:Int)+(1:Int)≤(9223372036854775807:Int); omega)
  rotate_left
  (exfalso; omega)
  ·have d:decide (x.length≤13)=false:=decide_eq_false (by omega)
   rw [d] at hI
   exact res_b (by unfold shT; rw [hI]; rfl)
  ·have d:decide (x.length≤13)=true:=decide_eq_true (by omega)
   rw [d] at hI
   exact ⟨k+1,⟨⟨by omega,hI⟩,by omega⟩,rfl⟩
 ·have e:k=t.t.length:=by omega
  rw [e,List.drop_length] at hI
  have hv:shT t=(decide (t.p.length≤9)&&decide (t.t.length≤9)&&decide (t.s.length≤9)&&decide (t.b.length≤5)):=by unfold shT; rw [hI]; rfl
  refine sd ?_
  refine b_lt (fun t1=>?_) (fun t1=>?_)
  (exfalso; omega)
  refine sd ?_
  refine b_le (fun t2=>?_) (fun t2=>?_)
  refine sd ?_
  refine b_le (fun t3=>?_) (fun t3=>?_)
  refine sd ?_
  refine b_le (fun t4=>?_) (fun t4=>?_)
  refine sd ?_
  rotate_left
  refine sd ?_
  rotate_left
  refine sd ?_
  refine sd ?_
  rotate_left
  refine sd ?_
  refine sd ?_
  refine sd ?_
  rotate_left
  ·refine res_b ?_
   rw [hv,decide_eq_true (show t.p.length≤9 by omega),decide_eq_true (show t.t.length≤9 by omega),decide_eq_true (show t.s.length≤9 by omega),Bool.true_and,Bool.true_and,Bool.true_and]
   exact decide_eq_decide.2 (by omega)
  ·exact res_b (by rw [hv,decide_eq_false (show ¬ t.s.length≤9 by omega),Bool.and_false,Bool.false_and])
  ·exact res_b (by rw [hv,decide_eq_false (show ¬ t.t.length≤9 by omega),Bool.and_false,Bool.false_and,Bool.false_and])
  ·exact res_b (by rw [hv,decide_eq_false (show ¬ t.p.length≤9 by omega),Bool.false_and,Bool.false_and,Bool.false_and])
theorem c20' (no:Int) (l:List Vr) (hl:l.length≤1048576) (hr:∀ x∈l,x.t.ok):CallDet Tryz.prog 20 [.d (.agg [.int .i64 no,.slice 6 (vrs l)])] [.bool (shC l)]:=by
 have hlv:=vrs_len l
 refine call_of_vc (x:=jr20) (by kernel_rfl) rfl ?_
 refine loop_st (fun k:Nat=>⟨[(1,.ptr 0 0),(3,.d (.int .i64 (k:Int)))],[.cbox [.int .i64 no,.slice 6 (vrs l)]]⟩) (fun k=>k≤l.length∧l.all (fun v=>shT v.t)=(l.drop k).all (fun v=>shT v.t)) (fun k=>l.length - k) 0 rfl ⟨Nat.zero_le _,rfl⟩ ?_
 rintro k ⟨hk,hI⟩
 dsimp only
 by_cases hkn:k < l.length
 ·refine Exists.elim (get_lt l hkn) fun x hx=>?_
  have hx1:=vrs_at hx
  have c19_:CallDet Tryz.prog 19 [.d (.agg [.slice 1 (ints x.t.p),.slice 1 (tys x.t.t),.slice 8 (seas x.t.s),.slice 2 (sws x.t.b)])] [.bool (shT x.t)]:=c19 x.t (hr x (List.mem_of_getElem? hx))
  rw [drop_at hx,List.all_cons] at hI
  generalize shT x.t=w at *
  cases w
  ·refine sd ?_
   refine b_lt (fun t1=>?_) (fun t1=>?_)
   refine ix_at hx1 ?_ ?_
   (show (0:Int)≤(↑k:Int); omega)
   refine ca c19_ ?_
   rotate_left
   (exfalso; omega)
   exact res_b (by unfold shC; rw [hI]; rfl)
  ·refine sd ?_
   refine b_lt (fun t1=>?_) (fun t1=>?_)
   refine ix_at hx1 ?_ ?_
   (show (0:Int)≤(↑k:Int); omega)
   refine ca c19_ ?_
   refine ar_add ?_ ?_
   refine an ?_ ?_
   (show (-9223372036854775808:Int)≤(↑k:Int)+(1:Int); omega)
   (show (↑k:Int)+(1:Int)≤(9223372036854775807:Int); omega)
   rotate_left
   (exfalso; omega)
   exact ⟨k+1,⟨⟨by omega,hI⟩,by omega⟩,rfl⟩
 ·have e:k=l.length:=by omega
  rw [e,List.drop_length] at hI
  have hv:shC l=decide (l.length≤9):=by unfold shC; rw [hI]; rfl
  refine sd ?_
  refine b_lt (fun t1=>?_) (fun t1=>?_)
  (exfalso; omega)
  refine sd ?_
  rotate_left
  refine res_b ?_
  rw [hv]
  exact decide_eq_decide.2 (by omega)
theorem c32_ok (h e:Int) (w:Int) (h0:e≠0→h=0) (h1:e=0→h=w):CallDet Tryz.prog 32 [.d (.int .i64 h),.d (.int .i64 e),.d (.int .i64 e),.d (.int .i64 w)] [.bool true]:=by
 refine call_of_vc (x:=jr32) (by kernel_rfl) rfl ?_
 by_cases he:e=0
 ·have h1:=h1 he
  subst h1
  refine sd ?_
  refine b_eq (fun t1=>?_) (fun t1=>?_)
  refine sd ?_
  refine b_ne (fun t2=>?_) (fun t2=>?_)
  (exfalso; omega)
  refine sd ?_
  refine sd ?_
  refine b_eq (fun t3=>?_) (fun t3=>?_)
  refine sd ?_
  rotate_left
  (exfalso; omega)
  (exfalso; omega)
  exact res_b (by show cmpF .eql h h=true; simp [cmpF])
 ·have h0:=h0 he
  subst h0
  refine sd ?_
  refine b_eq (fun t1=>?_) (fun t1=>?_)
  refine sd ?_
  refine b_ne (fun t2=>?_) (fun t2=>?_)
  refine sd ?_
  refine sd ?_
  exact rfl
  (exfalso; omega)
  (exfalso; omega)
end Vc
set_option maxRecDepth 10000
set_option maxHeartbeats 4000000
namespace Vc
open Go Go.Proofs
theorem scE_zero {α:Type} {g:α→Int→α→Int} {l:List α} (h:scE g l=0) {k:Nat} {x p:α} (hx:l[k]?=some x) (hp:l[k - 1]?=some p):g x k p=0:=by
 have key:∀ n m:Nat,scanE (gE g l) n m=0→m≤k→k < m+n→gE g l k=0:=by
  intro n
  induction n with
  | zero=>intro m _ h1 h2; omega
  | succ n ih =>
   intro m h0 h1 h2
   rw [scanE] at h0
   cases h3:(gE g l m != 0)
   ·rw [h3] at h0
    by_cases e:m=k
    ·rw [← e]; simpa using h3
    ·exact ih (m+1) h0 (by omega) (by omega)
   ·rw [h3] at h0
    have h0:gE g l m=0:=h0
    rw [h0] at h3; exact absurd h3 (by decide)
 have hk:k < l.length:=(List.getElem?_eq_some_iff.1 hx).1
 rw [← gE_at g hx hp]
 exact key l.length 0 h (Nat.zero_le _) (by omega)
theorem bif_zero {a b:Int} (h:(bif a != 0 then a else b)=0):a=0∧b=0:=by
 cases h2:(a != 0)
 ·rw [h2] at h
  exact ⟨by simpa using h2,h⟩
 ·rw [h2] at h
  have h:a=0:=h
  rw [h] at h2; exact absurd h2 (by decide)
theorem cnt_ok {n m:Int} (h:cntE n m=0):n≠0∧n≤m:=by
 have h1:=firstOf_zero h
 constructor
 ·intro e
  have:=h1 (bif n==0 then 12 else 0) (by simp)
  rw [e] at this
  exact absurd (show (12:Int)=0 from this) (by decide)
 ·have:=h1 (bif decide (m < n) then 5 else 0) (by simp)
  by_cases e:m < n
  ·rw [decide_eq_true e] at this
   exact absurd (show (5:Int)=0 from this) (by decide)
  ·omega
theorem asc_ok {k x b:Int} (h:ascE k x b=0):(k=0→x=0)∧(0 < k→b < x):=by
 unfold ascE at h
 split at h
 ·exact absurd h (by decide)
 ·exact ⟨fun e=>by omega,fun e=>by omega⟩
theorem prev_some {α:Type} {l:List α} {k:Nat} {x:α} (h:l[k]?=some x):∃ p,l[k - 1]?=some p :=
 get_lt l (by have:=(List.getElem?_eq_some_iff.1 h).1; omega)
structure TyG (n:Int) (l:List (Int × Int)):Prop where
 len:0 < l.length∧l.length≤12
 at0:∀ x,l[0]?=some x→x.1=0
 rng:∀ (k:Nat) x,l[k]?=some x→(0≤x.1∧x.1≤86399)∧(0≤x.2∧x.2 < n)
 asc:∀ (k:Nat) x p,l[k+1]?=some x→l[k]?=some p→p.1 < x.1
theorem ty_good {n:Int} {l:List (Int × Int)} (h:tyE n l=0):TyG n l:=by
 have h:=bif_zero h
 have h1:=cnt_ok h.1
 have e:∀ (k:Nat) x p,l[k]?=some x→l[k - 1]?=some p→(0≤x.1∧x.1≤86399)∧(0≤x.2∧x.2 < n)∧ascE k x.1 p.1=0:=by
  intro k x p hx hp
  have h2:=firstOf_zero (scE_zero h.2 hx hp)
  refine ⟨within_ok (h2 _ (by simp)),?_,h2 _ (by simp)⟩
  have h3:=h2 (bif decide (x.2 < 0)||decide (n≤x.2) then 10 else 0) (by simp)
  by_cases a:x.2 < 0
  ·rw [decide_eq_true a] at h3; exact absurd (show (10:Int)=0 from h3) (by decide)
  ·by_cases b:n≤x.2
   ·rw [decide_eq_false a,decide_eq_true b] at h3; exact absurd (show (10:Int)=0 from h3) (by decide)
   ·omega
 refine ⟨⟨by omega,by omega⟩,?_,?_,?_⟩
 ·intro x hx
  exact (asc_ok (e 0 x x hx hx).2.2).1 rfl
 ·intro k x hx
  refine Exists.elim (prev_some hx) fun p hp=>?_
  exact ⟨(e k x p hx hp).1,(e k x p hx hp).2.1⟩
 ·intro k x p hx hp
  exact (asc_ok (e (k+1) x p hx hp).2.2).2 (by omega)
theorem TyG.mono {n:Int} {l:List (Int × Int)} (h:TyG n l):∀ (d i:Nat) x p,l[i+d]?=some x→l[i]?=some p→p.1≤x.1
 | 0,i,x,p,hx,hp=>by rw [Nat.add_zero,hp] at hx; cases hx; exact Int.le_refl _
 | d+1,i,x,p,hx,hp=>by
  refine Exists.elim (get_lt l (k:=i+d) (by have:=(List.getElem?_eq_some_iff.1 hx).1; omega)) fun y hy=>?_
  have h1:=TyG.mono h d i y p hy hp
  have h2:=h.asc (i+d) x y hx hy
  omega
structure TfG (t:Tf):Prop where
 np:0 < t.p.length∧t.p.length≤8
 pr:∀ (k:Nat) x,t.p[k]?=some x→0≤x∧x≤100000
 nt:0 < t.t.length∧t.t.length≤8
 ty:∀ (k:Nat) l,t.t[k]?=some l→TyG t.p.length l
 ns:0 < t.s.length∧t.s.length≤8
 s0:∀ s,t.s[0]?=some s→s.f=0
 wk:∀ (k:Nat) s,t.s[k]?=some s→∀ d∈wk s,0≤d∧d < t.t.length
 sf:∀ (k:Nat) s,t.s[k]?=some s→0≤s.f∧s.f≤363
 sa:∀ (k:Nat) s q,t.s[k+1]?=some s→t.s[k]?=some q→q.f < s.f
 nb:t.b.length≤4
 bl:∀ (k:Nat) x,t.b[k]?=some x→(1≤x.1∧x.1≤100000000)∧(-100000≤x.2∧x.2≤100000)
 ba:∀ (k:Nat) x p,t.b[k+1]?=some x→t.b[k]?=some p→p.1 < x.1
theorem tf_good {t:Tf} (h:tfE t=0):TfG t:=by
 rw [tf_chain] at h
 have h1:=bif_zero h
 have h2:=bif_zero h1.2
 have h3:=bif_zero h2.2
 have h4:=bif_zero h3.2
 have h5:=bif_zero h4.2
 have h6:=bif_zero h5.2
 have c1:=cnt_ok h1.1
 have c3:=cnt_ok h3.1
 have c5:=cnt_ok h5.1
 have hs:∀ (k:Nat) s q,t.s[k]?=some s→t.s[k - 1]?=some q→(0≤s.f∧s.f≤363)∧(∀ d∈Vc.wk s,0≤d∧d < t.t.length)∧ascE k s.f q.f=0:=by
  intro k s q hx hp
  have e:=firstOf_zero (scE_zero h6.1 hx hp)
  refine ⟨within_ok (e _ (by simp)),?_,e _ (by simp)⟩
  have e3:=e (bif (Vc.wk s).any (badN t.t.length) then 10 else 0) (by simp)
  intro d hd
  cases hb:badN t.t.length d
  ·unfold badN at hb
   simp at hb
   exact hb
  ·have:(Vc.wk s).any (badN t.t.length)=true:=List.any_eq_true.2 ⟨d,hd,hb⟩
   rw [this] at e3; exact absurd (show (10:Int)=0 from e3) (by decide)
 have hb:t.b.length≤4∧scE blE t.b=0:=by
  have e:=h6.2
  unfold blsE at e
  by_cases a:(4:Int) < (t.b.length:Int)
  ·rw [decide_eq_true a] at e; exact absurd (show (5:Int)=0 from e) (by decide)
  ·rw [decide_eq_false a] at e; exact ⟨by omega,e⟩
 have hl:∀ (k:Nat) x p,t.b[k]?=some x→t.b[k - 1]?=some p→(1≤x.1∧x.1≤100000000)∧(-100000≤x.2∧x.2≤100000)∧(0 < (k:Int)→p.1 < x.1):=by
  intro k x p hx hp
  have e:=firstOf_zero (scE_zero hb.2 hx hp)
  refine ⟨within_ok (e (within3 x.1 1 100000000) (by simp)),within_ok (e (within3 x.2 (-100000) 100000) (by simp)),fun h0=>?_⟩
  have e3:=e (bif (bif decide (0 < (k:Int)) then decide (x.1≤p.1) else false) then 11 else 0) (by simp)
  rw [decide_eq_true h0] at e3
  by_cases a:x.1≤p.1
  ·rw [decide_eq_true a] at e3; exact absurd (show (11:Int)=0 from e3) (by decide)
  ·omega
 refine ⟨by omega,?_,by omega,?_,by omega,?_,?_,?_,?_,hb.1,?_,?_⟩
 ·intro k x hx
  refine Exists.elim (prev_some hx) fun p hp=>?_
  exact within_ok (scE_zero h2.1 hx hp)
 ·intro k x hx
  refine Exists.elim (prev_some hx) fun p hp=>?_
  exact ty_good (scE_zero h4.1 hx hp)
 ·intro s hx
  exact (asc_ok (hs 0 s s hx hx).2.2).1 rfl
 ·intro k s hx
  refine Exists.elim (prev_some hx) fun p hp=>?_
  exact (hs k s p hx hp).2.1
 ·intro k s hx
  refine Exists.elim (prev_some hx) fun p hp=>?_
  exact (hs k s p hx hp).1
 ·intro k s q hx hp
  exact (asc_ok (hs (k+1) s q hx hp).2.2).2 (by omega)
 ·intro k x hx
  refine Exists.elim (prev_some hx) fun p hp=>?_
  exact ⟨(hl k x p hx hp).1,(hl k x p hx hp).2.1⟩
 ·intro k x p hx hp
  exact (hl (k+1) x p hx hp).2.2 (by omega)
structure VsG (no:Int) (l:List Vr):Prop where
 n0:0≤no∧no≤364
 len:0 < l.length∧l.length≤8
 rng:∀ (k:Nat) v,l[k]?=some v→(0≤v.fr∧v.fr≤100000)∧(-364≤v.an∧v.an≤100000)∧v.an+no≤v.fr
 asc:∀ (k:Nat) v w,l[k+1]?=some v→l[k]?=some w→w.fr < v.fr∧w.an≤v.an
 tf:∀ (k:Nat) v,l[k]?=some v→tfE v.t=0
theorem vs_good {no:Int} {l:List Vr} (h:calL no l=0):VsG no l:=by
 have h:=bif_zero h
 have e0:=firstOf_zero h.1
 have c1:=cnt_ok (e0 (cntE l.length 8) (by simp))
 have hv:∀ (k:Nat) x p,l[k]?=some x→l[k - 1]?=some p→((0≤x.fr∧x.fr≤100000)∧(-364≤x.an∧x.an≤100000))∧x.an+no≤x.fr∧tfE x.t=0∧(0 < (k:Int)→p.fr < x.fr∧p.an≤x.an):=by
  intro k x p hx hp
  have e:=scE_zero h.2 hx hp
  rw [vE_cut] at e
  have e1:=bif_zero e
  have f1:=firstOf_zero e1.1
  refine ⟨⟨within_ok (f1 (dayE x.fr) (by simp)),within_ok (f1 (sinE x.an) (by simp))⟩,?_⟩
  have e2:=e1.2
  by_cases a:(bif decide (0 < (k:Int)) then decide (x.fr≤p.fr)||decide (x.an < p.an) else false)=true
  ·rw [a] at e2; exact absurd (show (11:Int)=0 from e2) (by decide)
  ·rw [Bool.not_eq_true] at a
   rw [a] at e2
   by_cases b:x.fr < x.an+no
   ·rw [decide_eq_true b] at e2; exact absurd (show (35:Int)=0 from e2) (by decide)
   ·rw [decide_eq_false b] at e2
    refine ⟨by omega,e2,fun h0=>?_⟩
    rw [decide_eq_true h0] at a
    have a:(decide (x.fr≤p.fr)||decide (x.an < p.an))=false:=a
    simp at a
    omega
 refine ⟨within_ok (e0 (within3 no 0 364) (by simp)),by omega,?_,?_,?_⟩
 ·intro k x hx
  refine Exists.elim (prev_some hx) fun p hp=>?_
  have e:=hv k x p hx hp
  exact ⟨e.1.1,e.1.2,e.2.1⟩
 ·intro k x p hx hp
  exact (hv (k+1) x p hx hp).2.2.2 (by omega)
 ·intro k x hx
  refine Exists.elim (prev_some hx) fun p hp=>?_
  exact (hv k x p hx hp).2.2.1
end Vc
