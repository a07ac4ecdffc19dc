import Derived.Test.YtmffgalmdnpcgaaGreatDoorG17
set_option linter.unusedSectionVars false
set_option linter.unusedVariables false
set_option linter.unusedSimpArgs false
set_option maxRecDepth 10000
set_option maxHeartbeats 4000000
namespace Vc
open Go Go.Proofs
theorem first_nest (a b c:Int):firstOf [a,firstOf [b,c]]=firstOf [a,b,c]:=by
 show (bif a != 0 then a else firstOf [firstOf [b,c]])=bif a != 0 then a else firstOf [b,c]
 rw [first_one]
theorem vE_cut (no : Int) (x : Vr) (k : Int) (p : Vr) : vE no x k p = bif firstOf [dayE x.fr, sinE x.an] != 0 then firstOf [dayE x.fr, sinE x.an]
  else bif (bif decide (0 < k) then decide (x.fr≤p.fr)||decide (x.an < p.an) else false) then 11 else bif decide (x.fr < x.an+no) then 35 else tfE x.t:=by
 have e1:e1E x k p=bif firstOf [dayE x.fr,sinE x.an] != 0 then firstOf [dayE x.fr,sinE x.an] else bif (bif decide (0 < k) then decide (x.fr≤p.fr)||decide (x.an < p.an) else false) then 11 else 0:=by
  unfold e1E; rw [← first_app (es:=[dayE x.fr,sinE x.an]) (first_one _)]; rfl
 have e2:e2E no x=bif decide (x.fr < x.an+no) then 35 else tfE x.t:=by
  show (bif (bif decide (x.fr < x.an+no) then (35:Int) else 0) != 0 then (bif decide (x.fr < x.an+no) then (35:Int) else 0) else firstOf [tfE x.t])=_
  rw [first_one]
  cases decide (x.fr < x.an+no) <;> rfl
 unfold vE
 rw [e1,e2]
 generalize firstOf [dayE x.fr,sinE x.an]=w
 cases h:(w != 0)
 ·cases (bif decide (0 < k) then decide (x.fr≤p.fr)||decide (x.an < p.an) else false) <;> rfl
 ·show (bif w != 0 then w else _)=w
  rw [h]; rfl
def jr23:AFun:=⟨89,4,[.tmp 2],
 (.seq
 (.reg [0] [⟨some 1,.cbx 0 2 (.tmp 0),none⟩,
  ⟨some 2,.mov (.cst (.d (.int .i64 0))),none⟩])
 (.seq
  (.seq
  (.regd [1] [⟨some 8,.fad 0 (.tmp 1),none⟩,
   ⟨some 9,.ld false 1 (.tmp 8),none⟩,
   ⟨some 10,.call 70 [(.tmp 9),(.cst (.d (.int .i64 0))),(.cst (.d (.int .i64 364)))],none⟩,
   ⟨some 11,.fad 1 (.tmp 1),none⟩,
   ⟨some 12,.ld false 1 (.tmp 11),none⟩,
   ⟨some 13,.len (.tmp 12),none⟩,
   ⟨some 14,.cmp .eql (.tmp 13) (.cst (.d (.int .i64 0))),none⟩,
   ⟨some 15,.call 27 [(.tmp 14),(.cst (.d (.int .i64 12)))],none⟩,
   ⟨some 16,.fad 1 (.tmp 1),none⟩,
   ⟨some 17,.ld false 1 (.tmp 16),none⟩,
   ⟨some 18,.len (.tmp 17),none⟩,
   ⟨some 19,.cmp .gtr (.tmp 18) (.cst (.d (.int .i64 8))),none⟩,
   ⟨some 20,.call 27 [(.tmp 19),(.cst (.d (.int .i64 5)))],none⟩,
   ⟨some 21,.bsl 1 3 1 3 [(.int .i64 0),(.int .i64 0),(.int .i64 0)] [(0,(.tmp 10)),(1,(.tmp 15)),(2,(.tmp 20))],none⟩,
   ⟨some 22,.call 24 [(.tmp 21)],none⟩,
   ⟨some 3,.mov (.tmp 22),none⟩] [(0,3),(1,3),(2,3),(0,4),(1,4),(2,4),(0,5),(1,5),(2,5),(0,6),(1,6),(2,6),(0,8),(1,8),(2,8),(3,8),(4,8),(5,8),(6,8),(7,8),(0,9),(1,9),(2,9),(3,9),(4,9),(5,9),(6,9),(7,9),(0,10),(1,10),(2,10),(3,10),(4,10),(5,10),(6,10),(7,10),(0,11),(1,11),(2,11),(3,11),(4,11),(5,11),(6,11),(7,11)])
  (.seq
   (.reg [] [⟨some 23,.mov (.tmp 3),none⟩,
    ⟨some 24,.cmp .neq (.tmp 23) (.cst (.d (.int .i64 0))),none⟩])
   (.cond (.tmp 24)
   (.seq
    (.reg [] [⟨some 25,.mov (.tmp 3),none⟩,
     ⟨some 2,.mov (.tmp 25),none⟩])
    .ret)
   .skip)))
  (.seq
  (.seq
   (.reg [] [⟨some 4,.mov (.cst (.d (.int .i64 0))),none⟩])
   (.post [] [0,1,2,3]
   (.block 0
    (.keep [1,4] [0,1]
    (.loop
     (.post [1,4] [2,3]
     (.seq
      (.seq
      (.reg [] [⟨some 26,.mov (.tmp 4),none⟩,
       ⟨some 27,.fad 1 (.tmp 1),none⟩,
       ⟨some 28,.ld false 1 (.tmp 27),none⟩,
       ⟨some 29,.len (.tmp 28),none⟩,
       ⟨some 30,.cmp .lss (.tmp 26) (.tmp 29),none⟩])
      (.cond (.tmp 30)
       .skip
       (.exit 0)))
      (.seq
      (.block 1
       (.seq
       (.reg [2] [⟨some 33,.fad 1 (.tmp 1),none⟩,
        ⟨some 34,.ld false 1 (.tmp 33),none⟩,
        ⟨some 35,.mov (.tmp 4),none⟩,
        ⟨some 36,.ixa 6 (.tmp 34) (.tmp 35),none⟩,
        ⟨some 37,.ld true 6 (.tmp 36),none⟩,
        ⟨some 5,.alloc 2 [(.d (.int .i64 0)),(.d (.int .i64 0)),(.nils 1),(.nils 1),(.nils 8),(.nils 2)],none⟩,
        ⟨none,.st 6 (.tmp 5) (.tmp 37),none⟩])
       (.seq
        (.seq
        (.regd [3] [⟨some 38,.fad 0 (.tmp 5),none⟩,
         ⟨some 39,.ld false 1 (.tmp 38),none⟩,
         ⟨some 40,.call 25 [(.tmp 39)],none⟩,
         ⟨some 41,.fad 1 (.tmp 5),none⟩,
         ⟨some 42,.ld false 1 (.tmp 41),none⟩,
         ⟨some 43,.call 42 [(.tmp 42)],none⟩,
         ⟨some 44,.bsl 3 3 1 2 [(.int .i64 0),(.int .i64 0)] [(0,(.tmp 40)),(1,(.tmp 43))],none⟩,
         ⟨some 45,.call 24 [(.tmp 44)],none⟩,
         ⟨some 6,.mov (.tmp 45),none⟩] [(0,3),(1,3),(2,3),(0,4),(1,4),(2,4)])
        (.seq
         (.reg [] [⟨some 46,.mov (.tmp 6),none⟩,
          ⟨some 47,.cmp .neq (.tmp 46) (.cst (.d (.int .i64 0))),none⟩])
         (.cond (.tmp 47)
         (.seq
          (.reg [] [⟨some 48,.mov (.tmp 6),none⟩,
           ⟨some 2,.mov (.tmp 48),none⟩])
          .ret)
         .skip)))
        (.seq
        (.seq
         (.regd [] [⟨some 49,.mov (.tmp 4),none⟩,
          ⟨some 50,.cmp .gtr (.tmp 49) (.cst (.d (.int .i64 0))),none⟩,
          ⟨some 51,.mov (.tmp 50),none⟩,
          ⟨some 52,.fad 0 (.tmp 5),some (51,true)⟩,
          ⟨some 53,.ld false 1 (.tmp 52),some (51,true)⟩,
          ⟨some 54,.fad 1 (.tmp 1),some (51,true)⟩,
          ⟨some 55,.ld false 1 (.tmp 54),some (51,true)⟩,
          ⟨some 56,.mov (.tmp 4),some (51,true)⟩,
          ⟨some 57,.arith .sub .i64 (.tmp 56) (.cst (.d (.int .i64 1))),some (51,true)⟩,
          ⟨some 58,.ixa 6 (.tmp 55) (.tmp 57),some (51,true)⟩,
          ⟨some 59,.fad 0 (.tmp 58),some (51,true)⟩,
          ⟨some 60,.ld false 1 (.tmp 59),some (51,true)⟩,
          ⟨some 61,.cmp .leq (.tmp 53) (.tmp 60),some (51,true)⟩,
          ⟨some 62,.mov (.tmp 61),some (51,true)⟩,
          ⟨some 63,.fad 1 (.tmp 5),some (62,false)⟩,
          ⟨some 64,.ld false 1 (.tmp 63),some (62,false)⟩,
          ⟨some 65,.fad 1 (.tmp 1),some (62,false)⟩,
          ⟨some 66,.ld false 1 (.tmp 65),some (62,false)⟩,
          ⟨some 67,.mov (.tmp 4),some (62,false)⟩,
          ⟨some 68,.arith .sub .i64 (.tmp 67) (.cst (.d (.int .i64 1))),some (62,false)⟩,
          ⟨some 69,.ixa 6 (.tmp 66) (.tmp 68),some (62,false)⟩,
          ⟨some 70,.fad 1 (.tmp 69),some (62,false)⟩,
          ⟨some 71,.ld false 1 (.tmp 70),some (62,false)⟩,
          ⟨some 72,.cmp .lss (.tmp 64) (.tmp 71),some (62,false)⟩,
          ⟨some 73,.pick (.tmp 62) (.cst (.d (.bool true))) (.tmp 72),some (51,true)⟩,
          ⟨some 74,.pick (.tmp 51) (.tmp 73) (.cst (.d (.bool false))),none⟩] [(3,5),(4,5),(3,6),(4,6),(3,7),(4,7),(5,7),(6,7),(3,8),(4,8),(5,8),(6,8),(3,9),(4,9),(3,10),(4,10),(3,11),(4,11),(14,16),(15,16),(14,17),(15,17),(14,18),(15,18),(16,18),(17,18),(14,19),(15,19),(16,19),(17,19),(14,20),(15,20),(14,21),(15,21),(14,22),(15,22)])
         (.cond (.tmp 74)
         (.seq
          (.reg [] [⟨some 2,.mov (.cst (.d (.int .i64 11))),none⟩])
          .ret)
         .skip))
        (.seq
         (.seq
         (.reg [] [⟨some 75,.fad 0 (.tmp 5),none⟩,
          ⟨some 76,.ld false 1 (.tmp 75),none⟩,
          ⟨some 77,.fad 1 (.tmp 5),none⟩,
          ⟨some 78,.ld false 1 (.tmp 77),none⟩,
          ⟨some 79,.fad 0 (.tmp 1),none⟩,
          ⟨some 80,.ld false 1 (.tmp 79),none⟩,
          ⟨some 81,.arith .add .i64 (.tmp 78) (.tmp 80),none⟩,
          ⟨some 82,.cmp .lss (.tmp 76) (.tmp 81),none⟩])
         (.cond (.tmp 82)
          (.seq
          (.reg [] [⟨some 2,.mov (.cst (.d (.int .i64 35))),none⟩])
          .ret)
          .skip))
         (.seq
         (.reg [] [⟨some 83,.fad 2 (.tmp 5),none⟩,
          ⟨some 84,.ld true 4 (.tmp 83),none⟩,
          ⟨some 85,.call 30 [(.tmp 84)],none⟩,
          ⟨some 7,.mov (.tmp 85),none⟩])
         (.seq
          (.reg [] [⟨some 86,.mov (.tmp 7),none⟩,
           ⟨some 87,.cmp .neq (.tmp 86) (.cst (.d (.int .i64 0))),none⟩])
          (.cond (.tmp 87)
          (.seq
           (.reg [] [⟨some 88,.mov (.tmp 7),none⟩,
            ⟨some 2,.mov (.tmp 88),none⟩])
           .ret)
          .skip))))))))
      (.reg [] [⟨some 31,.mov (.tmp 4),none⟩,
       ⟨some 32,.arith .add .i64 (.tmp 31) (.cst (.d (.int .i64 1))),none⟩,
       ⟨some 4,.mov (.tmp 32),none⟩])))))))))
  (.seq
   (.reg [] [⟨some 2,.mov (.cst (.d (.int .i64 0))),none⟩])
   .ret))))⟩
theorem c23' (no:Int) (l:List Vr) (hl:l.length≤1048576) (hr:∀ x∈l,x.t.ok):CallDet Tryz.prog 23 [.d (.agg [.int .i64 no,.slice 6 (vrs l)])] [.int .i64 (calL no l)]:=by
 have hlen:=vrs_len l
 have c70_:=c70 no 0 364
 have c27_1:=c27 ((((vrs l).length:Nat):Int)==0) 12
 have c27_2:=c27 (decide (8 < (((vrs l).length:Nat):Int))) 5
 have c24_:CallDet Tryz.prog 24 [.d (.slice 1 [.int .i64 (within3 no 0 364),.int .i64 (bif (((vrs l).length:Nat):Int)==0 then 12 else 0),.int .i64 (bif decide (8 < (((vrs l).length:Nat):Int)) then 5 else 0)])] [.int .i64 (e0E no l)]:=by
  have:=c24 [within3 no 0 364,bif (((vrs l).length:Nat):Int)==0 then 12 else 0,bif decide (8 < (((vrs l).length:Nat):Int)) then 5 else 0] (by simp)
  rw [← first_nest] at this
  unfold e0E
  rw [← hlen]
  exact this
 refine call_of_vc (x:=jr23) (by kernel_rfl) rfl ?_
 refine ca c70_ ?_
 refine sd ?_
 refine ca c27_1 ?_
 refine sd ?_
 refine ca c27_2 ?_
 refine sd ?_
 refine sd ?_
 refine ca c24_ ?_
 refine sd ?_
 refine b_ne (fun t1=>?_) (fun t1=>?_)
 rotate_left
 rotate_left
 ·exact res_c (by unfold calL; rw [bne_t t1]; rfl)
 have hE:calL no l=scE (vE no) l:=by
  unfold calL; rw [t1]; rfl
 have hno:=e0_ok t1
 refine loop_st (fun k:Nat=>⟨[(1,.ptr 0 0),(4,.d (.int .i64 (k:Int)))],[.cbox [.int .i64 no,.slice 6 (vrs l)],.none,.none,.none]⟩) (fun k=>k≤l.length∧scanE (gE (vE no) l) (l.length - k) k=scE (vE no) l) (fun k=>l.length - k) 0 rfl ⟨Nat.zero_le _,rfl⟩ ?_
 rintro k ⟨hk,hI⟩
 dsimp only
 by_cases hkn:k < l.length
 ·refine Exists.elim (get_lt l hkn) fun x hx=>?_
  refine Exists.elim (prev_at hkn) fun p hp=>?_
  have hp2:l[k - 1]?=some p:=by rw [← hp]; congr 1; omega
  have hp3:l[((k:Int) - 1).toNat]?=some p:=by rw [← hp2]; congr 1; omega
  have hg:=gE_at (vE no) hx hp2
  have hit:(vE no) x k p≠0→resV [.int .i64 ((vE no) x k p)]=resV [.int .i64 (calL no l)]:=fun t=>res_c ((hE.trans (scan_hit hI hkn hg t)).symm)
  have fin:(vE no) x k p=0→∃ a':Nat,((a'≤l.length∧scanE (gE (vE no) l) (l.length - a') a'=scE (vE no) l)∧l.length - a' < l.length - k)∧(⟨[(1,.ptr 0 0),(4,.d (.int .i64 ((k:Int)+1)))],[.cbox [.int .i64 no,.slice 6 (vrs l)],.none,.none,.none]⟩:St)=⟨[(1,.ptr 0 0),(4,.d (.int .i64 (a':Int)))],[.cbox [.int .i64 no,.slice 6 (vrs l)],.none,.none,.none]⟩:=fun t=>⟨k+1,⟨⟨by omega,scan_go hI hkn hg t⟩,by omega⟩,rfl⟩
  have hx1:=vrs_at hx
  have hp1:(vrs l)[((k:Int) - 1).toNat]?=some (.agg [.int .i64 p.fr,.int .i64 p.an,.slice 1 (ints p.t.p),.slice 1 (tys p.t.t),.slice 8 (seas p.t.s),.slice 2 (sws p.t.b)]):=by unfold vrs; rw [List.getElem?_map,hp3]; rfl
  have c25_:=c25 x.fr
  have c42_:=c42 x.an
  have c30_:CallDet Tryz.prog 30 [.d (.agg [.slice 1 (ints x.t.p),.slice 1 (tys x.t.t),.slice 8 (seas x.t.s),.slice 2 (sws x.t.b)])] _:=c30 x.t (hr x (List.mem_of_getElem? hx))
  have c24_:CallDet Tryz.prog 24 [.d (.slice 1 [.int .i64 (dayE x.fr),.int .i64 (sinE x.an)])] [.int .i64 (firstOf [dayE x.fr,sinE x.an])]:=c24 [dayE x.fr,sinE x.an] (by simp)
  have hb:firstOf [dayE x.fr,sinE x.an]=0→(0≤x.fr∧x.fr≤100000)∧(-364≤x.an∧x.an≤100000):=fun h=>⟨within_ok (firstOf_zero h (dayE x.fr) (by simp)),within_ok (firstOf_zero h (sinE x.an) (by simp))⟩
  have hv:=vE_cut no x k p
  generalize firstOf [dayE x.fr,sinE x.an]=w at *
  refine sd ?_
  refine b_lt (fun t2=>?_) (fun t2=>?_)
  refine ix_at hx1 ?_ ?_
  (show (0:Int)≤(↑k:Int); omega)
  refine ca c25_ ?_
  refine ca c42_ ?_
  refine sd ?_
  refine sd ?_
  refine ca c24_ ?_
  refine sd ?_
  refine b_ne (fun t3=>?_) (fun t3=>?_)
  rotate_left
  refine sd ?_
  refine b_lt (fun t4=>?_) (fun t4=>?_)
  refine ar_sub ?_ ?_
  refine an ?_ ?_
  (show (-9223372036854775808:Int)≤(↑k:Int) - (1:Int); omega)
  (show (↑k:Int) - (1:Int)≤(9223372036854775807:Int); omega)
  refine ix_at hp1 ?_ ?_
  (show (0:Int)≤(↑k:Int) - (1:Int); omega)
  refine sd ?_
  refine b_le (fun t5=>?_) (fun t5=>?_)
  refine sd ?_
  rotate_left
  refine ar_sub ?_ ?_
  refine an ?_ ?_
  (show (-9223372036854775808:Int)≤(↑k:Int) - (1:Int); omega)
  (show (↑k:Int) - (1:Int)≤(9223372036854775807:Int); omega)
  refine ix_at hp1 ?_ ?_
  (show (0:Int)≤(↑k:Int) - (1:Int); omega)
  refine sd ?_
  refine b_lt (fun t6=>?_) (fun t6=>?_)
  rotate_left
  refine ar_add ?_ ?_
  refine an ?_ ?_
  (show (-9223372036854775808:Int)≤Vr.an x+no; omega)
  (show Vr.an x+no≤(9223372036854775807:Int); omega)
  refine sd ?_
  refine b_lt (fun t7=>?_) (fun t7=>?_)
  rotate_left
  refine ca c30_ ?_
  refine sd ?_
  refine b_ne (fun t8=>?_) (fun t8=>?_)
  rotate_left
  refine ar_add ?_ ?_
  refine an ?_ ?_
  (show (-9223372036854775808:Int)≤(↑k:Int)+(1:Int); omega)
  (show (↑k:Int)+(1:Int)≤(9223372036854775807:Int); omega)
  rotate_left
  refine sd ?_
  refine ar_add ?_ ?_
  refine an ?_ ?_
  (show (-9223372036854775808:Int)≤Vr.an x+no; omega)
  (show Vr.an x+no≤(9223372036854775807:Int); omega)
  refine sd ?_
  refine b_lt (fun t9=>?_) (fun t9=>?_)
  rotate_left
  refine ca c30_ ?_
  refine sd ?_
  refine b_ne (fun t10=>?_) (fun t10=>?_)
  rotate_left
  refine ar_add ?_ ?_
  refine an ?_ ?_
  (show (-9223372036854775808:Int)≤(↑k:Int)+(1:Int); omega)
  (show (↑k:Int)+(1:Int)≤(9223372036854775807:Int); omega)
  rotate_left
  (exfalso; omega)
  ·have e3:vE no x k p=w:=by rw [hv,bne_t t3]; rfl
   rw [← e3]; exact hit (by rw [e3]; exact t3)
  ·have e3:vE no x k p=11:=by rw [hv,t3,decide_eq_true t4,decide_eq_true t5]; rfl
   rw [← e3]; exact hit (by rw [e3]; decide)
  ·have e3:vE no x k p=11:=by rw [hv,t3,decide_eq_true t4,decide_eq_false t5,decide_eq_true t6]; rfl
   rw [← e3]; exact hit (by rw [e3]; decide)
  ·have e3:vE no x k p=35:=by rw [hv,t3,decide_eq_true t4,decide_eq_false t5,decide_eq_false t6,decide_eq_true t7]; rfl
   rw [← e3]; exact hit (by rw [e3]; decide)
  ·have e3:vE no x k p=tfE x.t:=by rw [hv,t3,decide_eq_true t4,decide_eq_false t5,decide_eq_false t6,decide_eq_false t7]; rfl
   rw [← e3]; exact hit (by rw [e3]; exact t8)
  ·exact fin (by rw [hv,t3,decide_eq_true t4,decide_eq_false t5,decide_eq_false t6,decide_eq_false t7]; exact t8)
  ·have e3:vE no x k p=35:=by rw [hv,t3,decide_eq_false t4,decide_eq_true t9]; rfl
   rw [← e3]; exact hit (by rw [e3]; decide)
  ·have e3:vE no x k p=tfE x.t:=by rw [hv,t3,decide_eq_false t4,decide_eq_false t9]; rfl
   rw [← e3]; exact hit (by rw [e3]; exact t10)
  ·exact fin (by rw [hv,t3,decide_eq_false t4,decide_eq_false t9]; exact t10)
 ·have e:k=l.length:=by omega
  subst e
  refine sd ?_
  refine b_lt (fun t2=>?_) (fun t2=>?_)
  (exfalso; omega)
  rotate_left
  exact res_c ((hE.trans (scan_end hI)).symm)
end Vc
