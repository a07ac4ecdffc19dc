import Derived.Test.YtifgdpnmgeffbaaGreatDoorG27
set_option linter.unusedSectionVars false
set_option linter.unusedVariables false
set_option linter.unusedSimpArgs false
set_option maxRecDepth 10000
set_option maxHeartbeats 4000000
namespace Vc
open Go Go.Proofs
def jr30:AFun:=⟨110,8,[.tmp 8,.tmp 9],
 (.seq
 (.reg [0] [⟨some 4,.cbx 0 2 (.tmp 0),none⟩,
  ⟨some 8,.mov (.cst (.nils 2)),none⟩,
  ⟨some 9,.mov (.cst (.d (.int .i64 0))),none⟩])
 (.seq
  (.reg [1] [⟨some 21,.ld true 2 (.tmp 4),none⟩,
   ⟨some 22,.mov (.tmp 2),none⟩,
   ⟨some 23,.mov (.tmp 3),none⟩,
   ⟨some 24,.build [(.nils 2),(.nils 6),(.d (.str [])),(.d (.str []))] [(0,2,(.tmp 21)),(2,1,(.tmp 22)),(3,1,(.tmp 23))],none⟩,
   ⟨some 10,.alloc 1 [(.nils 2),(.nils 6),(.d (.str [])),(.d (.str []))],none⟩,
   ⟨none,.st 4 (.tmp 10) (.tmp 24),none⟩])
  (.seq
  (.seq
   (.reg [] [⟨some 25,.ld true 2 (.tmp 4),none⟩,
    ⟨some 26,.mov (.tmp 1),none⟩,
    ⟨some 27,.ld true 4 (.tmp 10),none⟩,
    ⟨some 28,.call 100 [(.tmp 25),(.tmp 26),(.tmp 27)],none⟩,
    ⟨some 11,.mov (.tmp 28),none⟩])
   (.seq
   (.reg [] [⟨some 29,.mov (.tmp 11),none⟩,
    ⟨some 30,.cmp .neq (.tmp 29) (.cst (.d (.int .i64 0))),none⟩])
   (.cond (.tmp 30)
    (.seq
    (.reg [] [⟨some 31,.mov (.tmp 11),none⟩,
     ⟨some 8,.mov (.cst (.nils 2)),none⟩,
     ⟨some 9,.mov (.tmp 31),none⟩])
    .ret)
    .skip)))
  (.seq
   (.reg [2] [⟨some 32,.bsl 2 3 1 2 [(.int .i64 0),(.int .i64 0)] [(0,(.cst (.d (.int .i64 0)))),(1,(.cst (.d (.int .i64 100001))))],none⟩,
    ⟨some 12,.mov (.tmp 32),none⟩])
   (.seq
   (.seq
    (.reg [] [⟨some 33,.fad 1 (.tmp 4),none⟩,
     ⟨some 34,.ld false 1 (.tmp 33),none⟩,
     ⟨some 35,.len (.tmp 34),none⟩,
     ⟨some 36,.mov (.cst (.d (.int .i64 0))),none⟩])
    (.post [1,10,12] [0,1,2,3,4,5]
    (.block 0
     (.asrow 5 3 1 12
     (.keep [1,10,12,34,35,36] [0,1,2]
      (.loop
      (.post [1,10,12,34,35,36] [3,4,5]
       (.seq
       (.reg [] [⟨some 37,.cmp .lss (.tmp 36) (.tmp 35),none⟩])
       (.seq
        (.cond (.tmp 37)
        .skip
        (.exit 0))
        (.seq
        (.block 1
         (.seq
         (.reg [3] [⟨some 38,.ixa 6 (.tmp 34) (.tmp 36),none⟩,
          ⟨some 39,.ld true 6 (.tmp 38),none⟩,
          ⟨some 14,.alloc 3 [(.d (.str [])),(.d (.str [])),(.d (.str [])),(.d (.str [])),(.d (.int .i64 0)),(.d (.int .i64 0))],none⟩,
          ⟨none,.st 6 (.tmp 14) (.tmp 39),none⟩])
         (.reg [4,5] [⟨some 40,.mov (.tmp 12),none⟩,
          ⟨some 41,.fad 4 (.tmp 14),none⟩,
          ⟨some 42,.fad 0 (.tmp 41),none⟩,
          ⟨some 43,.ld false 1 (.tmp 42),none⟩,
          ⟨some 44,.fad 4 (.tmp 14),none⟩,
          ⟨some 45,.fad 1 (.tmp 44),none⟩,
          ⟨some 46,.ld false 1 (.tmp 45),none⟩,
          ⟨some 47,.bsl 4 3 1 2 [(.int .i64 0),(.int .i64 0)] [(0,(.tmp 43)),(1,(.tmp 46))],none⟩,
          ⟨some 48,.app 5 3 1 8 (.tmp 40) (.tmp 47),none⟩,
          ⟨some 12,.mov (.tmp 48),none⟩])))
        (.reg [] [⟨some 49,.arith .add .i64 (.tmp 36) (.cst (.d (.int .i64 1))),none⟩,
         ⟨some 36,.mov (.tmp 49),none⟩])))))))))))
   (.seq
    (.reg [] [⟨some 50,.mov (.tmp 12),none⟩,
     ⟨some 51,.calli 119 [(.tmp 50)],none⟩])
    (.seq
    (.reg [] [⟨some 52,.mov (.tmp 12),none⟩,
     ⟨some 53,.calli 120 [(.tmp 52)],none⟩,
     ⟨some 12,.mov (.tmp 53),none⟩])
    (.seq
     (.reg [] [⟨some 15,.mov (.cst (.nils 2)),none⟩])
     (.seq
     (.seq
      (.reg [] [⟨some 54,.mov (.tmp 12),none⟩,
       ⟨some 55,.mov (.tmp 12),none⟩,
       ⟨some 56,.len (.tmp 55),none⟩,
       ⟨some 57,.arith .sub .i64 (.tmp 56) (.cst (.d (.int .i64 1))),none⟩,
       ⟨some 58,.slc 1 (.tmp 54) none (some (.tmp 57)),none⟩,
       ⟨some 59,.len (.tmp 58),none⟩,
       ⟨some 60,.mov (.cst (.d (.int .i64 0))),none⟩])
      (.post [15] [0,1,2,3,4,5,6,7]
      (.block 2
       (.asrow 7 148 2 15
       (.keep [1,10,12,15,58,59,60] [0,1,2,3,4,5]
        (.loop
        (.post [1,10,12,15,58,59,60] [6,7]
         (.seq
         (.reg [] [⟨some 61,.cmp .lss (.tmp 60) (.tmp 59),none⟩])
         (.seq
          (.cond (.tmp 61)
          .skip
          (.exit 2))
          (.seq
          (.block 3
           (.seq
           (.reg [] [⟨some 62,.mov (.tmp 60),none⟩,
            ⟨some 63,.ixa 1 (.tmp 58) (.tmp 60),none⟩,
            ⟨some 64,.ld false 1 (.tmp 63),none⟩,
            ⟨some 16,.mov (.tmp 62),none⟩,
            ⟨some 17,.mov (.tmp 64),none⟩])
           (.seq
            (.seq
            (.reg [] [⟨some 66,.ld true 4 (.tmp 10),none⟩,
             ⟨some 67,.mov (.tmp 1),none⟩,
             ⟨some 68,.mov (.tmp 17),none⟩,
             ⟨some 69,.call 102 [(.tmp 66),(.tmp 67),(.tmp 68)],none⟩,
             ⟨some 65,.mov (.tmp 69),none⟩,
             ⟨some 70,.ext 0 (.tmp 65),none⟩,
             ⟨some 71,.ext 1 (.tmp 65),none⟩,
             ⟨some 18,.mov (.tmp 70),none⟩,
             ⟨some 19,.mov (.tmp 71),none⟩])
            (.seq
             (.reg [] [⟨some 72,.mov (.tmp 19),none⟩,
              ⟨some 73,.not (.tmp 72),none⟩])
             (.cond (.tmp 73)
             (.exit 3)
             .skip)))
            (.seq
            (.reg [] [⟨some 74,.mov (.tmp 15),none⟩,
             ⟨some 75,.len (.tmp 74),none⟩,
             ⟨some 20,.mov (.tmp 75),none⟩])
            (.seq
             (.reg [] [⟨some 76,.mov (.tmp 20),none⟩,
              ⟨some 77,.cmp .gtr (.tmp 76) (.cst (.d (.int .i64 0))),none⟩,
              ⟨some 78,.mov (.tmp 77),none⟩,
              ⟨some 79,.mov (.tmp 15),some (78,true)⟩,
              ⟨some 80,.mov (.tmp 20),some (78,true)⟩,
              ⟨some 81,.arith .sub .i64 (.tmp 80) (.cst (.d (.int .i64 1))),some (78,true)⟩,
              ⟨some 82,.ixa 2 (.tmp 79) (.tmp 81),some (78,true)⟩,
              ⟨some 83,.fad 1 (.tmp 82),some (78,true)⟩,
              ⟨some 84,.ld false 1 (.tmp 83),some (78,true)⟩,
              ⟨some 85,.mov (.tmp 17),some (78,true)⟩,
              ⟨some 86,.cmp .eql (.tmp 84) (.tmp 85),some (78,true)⟩,
              ⟨some 87,.pick (.tmp 78) (.tmp 86) (.cst (.d (.bool false))),none⟩])
             (.cond (.tmp 87)
             (.reg [] [⟨some 88,.mov (.tmp 15),none⟩,
              ⟨some 89,.mov (.tmp 20),none⟩,
              ⟨some 90,.arith .sub .i64 (.tmp 89) (.cst (.d (.int .i64 1))),none⟩,
              ⟨some 91,.mov (.tmp 12),none⟩,
              ⟨some 92,.mov (.tmp 16),none⟩,
              ⟨some 93,.arith .add .i64 (.tmp 92) (.cst (.d (.int .i64 1))),none⟩,
              ⟨some 94,.ixa 1 (.tmp 91) (.tmp 93),none⟩,
              ⟨some 95,.ld false 1 (.tmp 94),none⟩,
              ⟨some 96,.ixa 2 (.tmp 88) (.tmp 90),none⟩,
              ⟨some 97,.fad 1 (.tmp 96),none⟩,
              ⟨none,.st 1 (.tmp 97) (.tmp 95),none⟩])
             (.reg [6,7] [⟨some 98,.mov (.tmp 15),none⟩,
              ⟨some 99,.mov (.tmp 17),none⟩,
              ⟨some 100,.mov (.tmp 12),none⟩,
              ⟨some 101,.mov (.tmp 16),none⟩,
              ⟨some 102,.arith .add .i64 (.tmp 101) (.cst (.d (.int .i64 1))),none⟩,
              ⟨some 103,.ixa 1 (.tmp 100) (.tmp 102),none⟩,
              ⟨some 104,.ld false 1 (.tmp 103),none⟩,
              ⟨some 105,.build [(.d (.int .i64 0)),(.d (.int .i64 0))] [(0,1,(.tmp 99)),(1,1,(.tmp 104))],none⟩,
              ⟨some 106,.bsl 6 148 2 1 [(.agg [(.int .i64 0),(.int .i64 0)])] [(0,(.tmp 105))],none⟩,
              ⟨some 107,.app 7 148 2 16 (.tmp 98) (.tmp 106),none⟩,
              ⟨some 15,.mov (.tmp 107),none⟩])))))))
          (.reg [] [⟨some 108,.arith .add .i64 (.tmp 60) (.cst (.d (.int .i64 1))),none⟩,
           ⟨some 60,.mov (.tmp 108),none⟩])))))))))))
     (.seq
      (.reg [] [⟨some 109,.mov (.tmp 15),none⟩,
       ⟨some 8,.mov (.tmp 109),none⟩,
       ⟨some 9,.mov (.cst (.d (.int .i64 0))),none⟩])
      .ret))))))))))⟩
def endsF:List Gr→List Int→List Int
 | [],E=>E
 | g::r,E=>endsF r (E++[g.a,g.b])
theorem endsF_len:∀ (r:List Gr) (E:List Int),(endsF r E).length=E.length+2 * r.length
 | [],E=>by simp [endsF]
 | g::r,E=>by
  rw [endsF,endsF_len r]
  simp only [List.length_append,List.length_cons,List.length_nil]
  omega
theorem endsF_mem (e:Int):∀ (r:List Gr) (E:List Int),e∈endsF r E↔e∈E∨∃ g∈r,e=g.a∨e=g.b
 | [],E=>by simp [endsF]
 | g::r,E=>by
  rw [endsF,endsF_mem e r]
  simp only [List.mem_append,List.mem_cons,List.not_mem_nil,or_false]
  constructor
  ·rintro ((h | h) | ⟨g',h1,h2⟩)
   ·exact .inl h
   ·exact .inr ⟨g,.inl rfl,h⟩
   ·exact .inr ⟨g',.inr h1,h2⟩
  ·rintro (h | ⟨g',rfl | h1,h2⟩)
   ·exact .inl (.inl h)
   ·exact .inl (.inr h2)
   ·exact .inr ⟨g',h1,h2⟩
def sps (l:List (Int × Int)):List Data:=l.map fun x=>.agg [.int .i64 x.1,.int .i64 x.2]
theorem sps_len (l:List (Int × Int)):(sps l).length=l.length:=List.length_map _
theorem sps_snoc (l:List (Int × Int)) (a b:Int):sps (l++[(a,b)])=sps l++[Data.agg [.int .i64 a,.int .i64 b]]:=List.map_append
theorem ints_two (E:List Int) (a b:Int):ints (E++[a,b])=ints E++[Data.int .i64 a,Data.int .i64 b]:=List.map_append
theorem i119d (N:Nat) (X:List Int) (hN:N=X.length) (h0:0 < X.length) (h1:X.length < 4611686018427387904) (b:AObj):CallIn Tryz.prog 119 [.sl 2 N] [.none,b,.row 3 1 (ints X) false,.none,.none,.none,.none,.none] (.tup []) (setAll [.none,b,.row 3 1 (ints X) false,.none,.none,.none,.none,.none] [(2,.row 3 1 (ints (srtI X)) false)]):=by
 subst hN
 exact sort_callIn (hasFnB_spec (by kernel_rfl)) Tryz.slices_Sort_int (id:=2) (t:=3) (zs:=X) rfl h0 h1
theorem i120d (N:Nat) (X:List Int) (hN:N=X.length) (h0:0 < X.length) (h1:X.length < 4611686018427387904) (b:AObj):CallIn Tryz.prog 120 [.sl 2 N] [.none,b,.row 3 1 (ints X) false,.none,.none,.none,.none,.none] (.d (.slice 1 (ints (Lib.compact X)))) (setAll [.none,b,.row 3 1 (ints X) false,.none,.none,.none,.none,.none] [(2,.row 3 1 (ints (Lib.compact X++List.replicate (X.length - (Lib.compact X).length) 0)) true)]):=by
 subst hN
 exact compact_callIn (hasFnB_spec (by kernel_rfl)) Tryz.slices_Compact_int (id:=2) (t:=3) (zs:=X) rfl h0 h1
theorem set_last {α:Type} (l:List α) (x y:α):(l++[x]).set l.length y=l++[y]:=by simp
theorem pushD_snoc (d nx:Int) (l:List (Int × Int)) (x:Int × Int):pushD d nx (l++[x])=bif x.2==d then l++[(x.1,nx)] else (l++[x])++[(d,nx)]:=by
 unfold pushD
 rw [List.length_append,show l.length+[x].length - 1=l.length from rfl,List.getElem?_append_right (Nat.le_refl _),Nat.sub_self]
 show (bif x.2==d then (l++[x]).set l.length (x.1,nx) else _)=_
 rw [set_last]
theorem snoc_cases {α:Type} (l:List α):l=[]∨∃ a x,l=a++[x]:=by
 rcases List.eq_nil_or_concat l with h | ⟨a,x,h⟩
 ·exact .inl h
 ·exact .inr ⟨a,x,by rw [h,List.concat_eq_append]⟩
theorem sps_at {l:List (Int × Int)} {k:Nat} {x:Int × Int} (h:l[k]?=some x):(sps l)[k]?=some (.agg [.int .i64 x.1,.int .i64 x.2]):=by
 show (l.map _)[k]?=_
 rw [List.getElem?_map,h]; rfl
theorem sps_last (o:List (Int × Int)) (x y:Int):(sps (o++[(x,y)]))[((((sps (o++[(x,y)])).length:Nat):Int) - 1).toNat]?=some (.agg [.int .i64 x,.int .i64 y]):=by
 rw [sps_len,show (((o++[(x,y)]).length:Nat):Int) - 1=((o.length:Nat):Int) by rw [List.length_append]; show ((o.length+1:Nat):Int) - 1=_; omega]
 refine sps_at (x:=(x,y)) ?_
 show (o++[(x,y)])[o.length]?=_
 rw [List.getElem?_append_right (Nat.le_refl _),Nat.sub_self]; rfl
theorem sps_set (o:List (Int × Int)) (x y b:Int):(sps (o++[(x,y)])).set ((((sps (o++[(x,y)])).length:Nat):Int) - 1).toNat (.agg [.int .i64 x,.int .i64 b])=sps (o++[(x,b)]):=by
 rw [sps_len,show (((o++[(x,y)]).length:Nat):Int) - 1=((o.length:Nat):Int) by rw [List.length_append]; show ((o.length+1:Nat):Int) - 1=_; omega,sps_snoc,sps_snoc,← sps_len o]
 show (sps o++[Data.agg [.int .i64 x,.int .i64 y]]).set (sps o).length _=_
 rw [set_last]
def daysP (l:List Ob) (G:List Gr) (of ri ob:Nm):List (Int × Int):=cutL (fun d=>(chainP l G ri ob d of).isSome) (Lib.compact (srtI (endsF G [0,100001]))) []
theorem qE_le {l:List Ob} {G:List Gr} {of ri ob:Nm} (h:qE l G of ri ob=0):G.length≤32:=bookE_le (firstOf_zero h (bookE l G) List.mem_cons_self)
theorem c30 (l:List Ob) (G:List Gr) (of ri ob:Nm) (hl:l.length≤1048576) (hG:G.length≤1048576):CallDet Tryz.prog 30 [.d (.agg [.slice 2 (obs l),.slice 6 (grs G)]),.d (.str of),.d (.str ri),.d (.str ob)] [.slice 2 (sps (bif qE l G of ri ob != 0 then [] else daysP l G of ri ob)),.int .i64 (qE l G of ri ob)]:=by
 have c100_:=c100 l G of ri ob hl hG
 cases h:qE l G of ri ob != 0 with
 | true =>
  refine call_of_vc (x:=jr30) (by kernel_rfl) rfl ?_
  refine ca c100_ ?_
  refine sd ?_
  refine b_t h ?_
  exact rfl
 | false =>
 have h0:qE l G of ri ob=0:=by simpa using h
 have hG32:=qE_le h0
 rw [h0] at c100_ ⊢
 show CallDet _ _ _ [.slice 2 (sps (daysP l G of ri ob)),.int .i64 0]
 unfold daysP
 generalize hX:endsF G [0,100001]=X
 have hXl:X.length=2+2 * G.length:=by rw [← hX]; exact endsF_len G _
 have hX0:0∈X:=by rw [← hX]; exact (endsF_mem 0 G _).2 (.inl List.mem_cons_self)
 refine call_of_vc (x:=jr30) (by kernel_rfl) rfl ?_
 refine ca c100_ ?_
 refine sd ?_
 refine sd ?_
 rotate_left
 refine loop_st (fun p:Nat × List Int=>⟨[(1,.d (.str of)),(10,.ptr 1 0),(12,.sl 2 (ints (p.2)).length),(34,.d (.slice 6 (grs G))),(35,.d (.int .i64 (((grs G).length:Nat):Int))),(36,.d (.int .i64 ((p.1:Nat))))],[.none,.box [.d (.slice 2 (obs l)),.d (.slice 6 (grs G)),.d (.str ri),.d (.str ob)],.row 3 1 (ints (p.2)) false,.none,.none,.none,.none,.none]⟩) (fun p=>(p.1≤G.length∧p.2.length=2+2 * p.1)∧endsF (G.drop p.1) p.2=X) (fun p=>G.length - p.1) (0,[0,100001]) rfl ⟨⟨Nat.zero_le _,rfl⟩,hX⟩ ?_
 clear hX
 rintro ⟨k,E⟩ ⟨⟨hk0,hE0⟩,hi0⟩
 have hk:k≤G.length:=hk0
 have hE:E.length=2+2 * k:=hE0
 have hi:endsF (G.drop k) E=X:=hi0
 clear hk0 hE0 hi0
 dsimp only
 have hil:=ints_len E
 have hlg:=grs_len G
 by_cases hkn:k < G.length
 ·refine Exists.elim (get_lt G hkn) fun g hx=>?_
  have hx1:=grs_at hx
  rw [drop_at hx,endsF] at hi
  have fin:∃ a':Nat × List Int,(((a'.1≤G.length∧a'.2.length=2+2 * a'.1)∧endsF (G.drop a'.1) a'.2=X)∧G.length - a'.1 < G.length - k)∧(⟨[(1,.d (.str of)),(10,.ptr 1 0),(12,.sl 2 (ints (E++[g.a,g.b])).length),(34,.d (.slice 6 (grs G))),(35,.d (.int .i64 (((grs G).length:Nat):Int))),(36,.d (.int .i64 ((k:Int)+1)))],[.none,.box [.d (.slice 2 (obs l)),.d (.slice 6 (grs G)),.d (.str ri),.d (.str ob)],.row 3 1 (ints (E++[g.a,g.b])) false,.none,.none,.none,.none,.none]⟩:St)=⟨[(1,.d (.str of)),(10,.ptr 1 0),(12,.sl 2 (ints (a'.2)).length),(34,.d (.slice 6 (grs G))),(35,.d (.int .i64 (((grs G).length:Nat):Int))),(36,.d (.int .i64 ((a'.1:Nat))))],[.none,.box [.d (.slice 2 (obs l)),.d (.slice 6 (grs G)),.d (.str ri),.d (.str ob)],.row 3 1 (ints (a'.2)) false,.none,.none,.none,.none,.none]⟩:=⟨(k+1,E++[g.a,g.b]),⟨⟨⟨by show k+1≤G.length; omega,by show (E++[g.a,g.b]).length=2+2 * (k+1); rw [List.length_append]; show E.length+2=_; omega⟩,hi⟩,by show G.length - (k+1) < G.length - k; omega⟩,rfl⟩
  rw [ints_two] at fin
  refine sd ?_
  refine b_lt (fun t1=>?_) (fun t1=>?_)
  refine ix_at hx1 ?_ ?_
  (show (0:Int)≤(↑k:Int); omega)
  refine sd ?_
  refine sd ?_
  refine sd ?_
  refine an ?_ ?_
  refine an ?_ ?_
  exact rfl
  refine an ?_ ?_
  exact rfl
  refine an ?_ ?_
  exact rfl
  refine an ?_ ?_
  (show (List.length (ints E)+((1:Nat)+(1:Nat))) * (8:Nat)≤(2:Nat) ^ (47:Nat); omega)
  (show List.length (ints E)+((1:Nat)+(1:Nat))≤(2:Nat) ^ (47:Nat); omega)
  refine ar_add ?_ ?_
  refine an ?_ ?_
  (show (-9223372036854775808:Int)≤(↑k:Int)+(1:Int); omega)
  (show (↑k:Int)+(1:Int)≤(9223372036854775807:Int); omega)
  rotate_left
  (exfalso; omega)
  all_goals exact fin
 ·have e:k=G.length:=by omega
  subst e
  rw [List.drop_eq_nil_of_le (Nat.le_refl _)] at hi
  have hi:E=X:=hi
  subst hi
  have c119i_:=i119d (ints E).length E hil (by omega) (by omega) (.box [.d (.slice 2 (obs l)),.d (.slice 6 (grs G)),.d (.str ri),.d (.str ob)])
  have c120i_:=i120d (ints E).length (srtI E) (hil.trans (srtI_len E).symm) (by rw [srtI_len]; omega) (by rw [srtI_len]; omega) (.box [.d (.slice 2 (obs l)),.d (.slice 6 (grs G)),.d (.str ri),.d (.str ob)])
  have hC0:0 < (Lib.compact (srtI E)).length:=List.length_pos_of_mem ((cmp_mem (srtI E) 0).2 ((srtI_mem E 0).2 hX0))
  have hCl:(Lib.compact (srtI E)).length≤66:=by
   have h1:=cmp_len (srtI E)
   rw [srtI_len] at h1
   omega
  generalize Lib.compact (srtI E)=C at c120i_ hC0 hCl ⊢
  generalize hY:cutL (fun d=>(chainP l G ri ob d of).isSome) C []=Y
  have hlC:=ints_len C
  have hraw:List.length (List.drop (Int.toNat 0) (List.take (Int.toNat (((List.length (ints C):Nat):Int) - 1)) (ints C)))=C.length - 1:=by
   rw [List.length_drop,List.length_take,hlC]
   show min (Int.toNat (((C.length:Nat):Int) - 1)) C.length - 0=_
   omega
  have hrawi:∀ (k:Nat) (a:Int),C[k]?=some a→k < C.length - 1→(List.drop (Int.toNat 0) (List.take (Int.toNat (((List.length (ints C):Nat):Int) - 1)) (ints C)))[((k:Nat):Int).toNat]?=some (Data.int .i64 a):=by
   intro k a hk hlt
   rw [List.getElem?_drop,List.getElem?_take_of_lt (by rw [hlC]; show 0+((k:Nat):Int).toNat < _; omega)]
   show (ints C)[0+((k:Nat):Int).toNat]?=_
   rw [Nat.zero_add]
   exact ints_get hk
  refine sd ?_
  refine b_lt (fun t1=>?_) (fun t1=>?_)
  (exfalso; omega)
  refine Exists.intro _ (Exists.intro _ (And.intro (c119i_) ?_))
  refine Exists.intro _ (Exists.intro _ (And.intro (c120i_) ?_))
  refine ar_sub ?_ ?_
  refine an ?_ ?_
  (show (-9223372036854775808:Int)≤(↑(List.length (ints C)):Int) - (1:Int); omega)
  (show (↑(List.length (ints C)):Int) - (1:Int)≤(9223372036854775807:Int); omega)
  refine an ?_ ?_
  refine an ?_ ?_
  exact rfl
  refine an ?_ ?_
  (show (0:Int)≤(0:Int); omega)
  refine an ?_ ?_
  (show (0:Int)≤(↑(List.length (ints C)):Int) - (1:Int); omega)
  (show (↑(List.length (ints C)):Int) - (1:Int)≤(↑(List.length (ints C)):Int); omega)
  rotate_left
  refine loop_st (fun p:Nat × List (Int × Int)=>⟨[(1,.d (.str of)),(10,.ptr 1 0),(12,.d (.slice 1 (ints C))),(15,.sl 7 (sps (p.2)).length),(58,.d (.slice 1 (List.drop (Int.toNat 0) (List.take (Int.toNat (((List.length (ints C):Nat):Int) - 1)) (ints C))))),(59,.d (.int .i64 (((List.length (List.drop (Int.toNat 0) (List.take (Int.toNat (((List.length (ints C):Nat):Int) - 1)) (ints C))):Nat)):Int))),(60,.d (.int .i64 ((p.1:Nat))))],[.none,.box [.d (.slice 2 (obs l)),.d (.slice 6 (grs G)),.d (.str ri),.d (.str ob)],.none,.none,.none,.none,.none,.row 148 2 (sps (p.2)) false]⟩) (fun p=>(p.1 < C.length∧p.2.length≤p.1)∧cutL (fun d=>(chainP l G ri ob d of).isSome) (C.drop p.1) p.2=Y) (fun p=>C.length - p.1) (0,[]) rfl ⟨⟨hC0,Nat.le_refl _⟩,hY⟩ ?_
  clear hY
  rintro ⟨k,out⟩ ⟨⟨hk0,ho0⟩,hi0⟩
  have hk:k < C.length:=hk0
  have ho:out.length≤k:=ho0
  have hi:cutL (fun d=>(chainP l G ri ob d of).isSome) (C.drop k) out=Y:=hi0
  clear hk0 ho0 hi0
  dsimp only
  by_cases hkn:k < C.length - 1
  ·refine Exists.elim (get_lt C hk) fun a ha=>?_
   refine Exists.elim (get_lt C (show k+1 < C.length by omega)) fun b hb=>?_
   have hr1:=hrawi k a ha hkn
   have hb1:(ints C)[(((k:Nat):Int)+1).toNat]?=some (Data.int .i64 b):=ints_get hb
   have hDk:C.drop k=a::b::C.drop (k+2):=by rw [drop_at ha,drop_at hb]
   have hDk1:b::C.drop (k+2)=C.drop (k+1):=(drop_at hb).symm
   rw [hDk,cutL,hDk1] at hi
   have c102_:=c102 l G ri ob of a hl hG32
   have hso:=sps_len out
   have mkfin:∀ o:List (Int × Int),o.length≤k+1→cutL (fun d=>(chainP l G ri ob d of).isSome) (C.drop (k+1)) o=Y→(∃ a':Nat × List (Int × Int),(((a'.1 < C.length∧a'.2.length≤a'.1)∧cutL (fun d=>(chainP l G ri ob d of).isSome) (C.drop a'.1) a'.2=Y)∧C.length - a'.1 < C.length - k)∧(⟨[(1,.d (.str of)),(10,.ptr 1 0),(12,.d (.slice 1 (ints C))),(15,.sl 7 (sps (o)).length),(58,.d (.slice 1 (List.drop (Int.toNat 0) (List.take (Int.toNat (((List.length (ints C):Nat):Int) - 1)) (ints C))))),(59,.d (.int .i64 (((List.length (List.drop (Int.toNat 0) (List.take (Int.toNat (((List.length (ints C):Nat):Int) - 1)) (ints C))):Nat)):Int))),(60,.d (.int .i64 ((k:Int)+1)))],[.none,.box [.d (.slice 2 (obs l)),.d (.slice 6 (grs G)),.d (.str ri),.d (.str ob)],.none,.none,.none,.none,.none,.row 148 2 (sps (o)) false]⟩:St)=⟨[(1,.d (.str of)),(10,.ptr 1 0),(12,.d (.slice 1 (ints C))),(15,.sl 7 (sps (a'.2)).length),(58,.d (.slice 1 (List.drop (Int.toNat 0) (List.take (Int.toNat (((List.length (ints C):Nat):Int) - 1)) (ints C))))),(59,.d (.int .i64 (((List.length (List.drop (Int.toNat 0) (List.take (Int.toNat (((List.length (ints C):Nat):Int) - 1)) (ints C))):Nat)):Int))),(60,.d (.int .i64 ((a'.1:Nat))))],[.none,.box [.d (.slice 2 (obs l)),.d (.slice 6 (grs G)),.d (.str ri),.d (.str ob)],.none,.none,.none,.none,.none,.row 148 2 (sps (a'.2)) false]⟩):=fun o ho hc=>⟨(k+1,o),⟨⟨⟨by show k+1 < C.length; omega,ho⟩,hc⟩,by show C.length - (k+1) < C.length - k; omega⟩,rfl⟩
   cases hp:(chainP l G ri ob a of).isSome with
   | false =>
    rw [hp] at c102_
    have hi:cutL (fun d=>(chainP l G ri ob d of).isSome) (C.drop (k+1)) out=Y:=by
     rw [show (chainP l G ri ob a of).isSome=false from hp] at hi
     exact hi
    have fin:=mkfin out (by omega) hi
    clear mkfin
    refine sd ?_
    refine b_lt (fun t2=>?_) (fun t2=>?_)
    refine ix_at hr1 ?_ ?_
    (show (0:Int)≤(↑k:Int); omega)
    refine ca c102_ ?_
    refine ar_add ?_ ?_
    refine an ?_ ?_
    (show (-9223372036854775808:Int)≤(↑k:Int)+(1:Int); omega)
    (show (↑k:Int)+(1:Int)≤(9223372036854775807:Int); omega)
    rotate_left
    (exfalso; omega)
    all_goals exact fin
   | true =>
    rw [hp] at c102_
    have hi:cutL (fun d=>(chainP l G ri ob d of).isSome) (C.drop (k+1)) (pushD a b out)=Y:=by
     rw [show (chainP l G ri ob a of).isSome=true from hp] at hi
     exact hi
    rcases snoc_cases out with rfl | ⟨o,⟨x,y⟩,rfl⟩
    ·have fin:=mkfin [(a,b)] (by show 1≤k+1; omega) hi
     clear mkfin
     refine sd ?_
     refine b_lt (fun t2=>?_) (fun t2=>?_)
     refine ix_at hr1 ?_ ?_
     (show (0:Int)≤(↑k:Int); omega)
     refine ca c102_ ?_
     refine sd ?_
     refine sd ?_
     refine sd ?_
     refine ar_add ?_ ?_
     refine an ?_ ?_
     (show (-9223372036854775808:Int)≤(↑k:Int)+(1:Int); omega)
     (show (↑k:Int)+(1:Int)≤(9223372036854775807:Int); omega)
     refine ix_at hb1 ?_ ?_
     (show (0:Int)≤(↑k:Int)+(1:Int); omega)
     refine sd ?_
     refine sd ?_
     refine sd ?_
     refine an ?_ ?_
     refine an ?_ ?_
     exact rfl
     refine an ?_ ?_
     exact rfl
     refine an ?_ ?_
     exact rfl
     refine an ?_ ?_
     (show ((0:Nat)+(1:Nat)) * (16:Nat)≤(2:Nat) ^ (47:Nat); omega)
     (show (0:Nat)+(1:Nat)≤(2:Nat) ^ (47:Nat); omega)
     refine ar_add ?_ ?_
     refine an ?_ ?_
     (show (-9223372036854775808:Int)≤(↑k:Int)+(1:Int); omega)
     (show (↑k:Int)+(1:Int)≤(9223372036854775807:Int); omega)
     rotate_left
     (exfalso; omega)
     all_goals exact fin
    ·rw [pushD_snoc] at hi
     have hol:(o++[(x,y)]).length=o.length+1:=List.length_append
     have hla:=sps_last o x y
     dsimp only at hi
     cases hx:(y==a) with
     | false =>
      have hy:y≠a:=by simpa using hx
      rw [hx] at hi
      have hi:cutL (fun d=>(chainP l G ri ob d of).isSome) (C.drop (k+1)) ((o++[(x,y)])++[(a,b)])=Y:=hi
      have fin:=mkfin ((o++[(x,y)])++[(a,b)]) (by rw [List.length_append]; show (o++[(x,y)]).length+1≤_; omega) hi
      rw [sps_snoc (o++[(x,y)])] at fin
      clear mkfin
      refine sd ?_
      refine b_lt (fun t2=>?_) (fun t2=>?_)
      refine ix_at hr1 ?_ ?_
      (show (0:Int)≤(↑k:Int); omega)
      refine ca c102_ ?_
      refine sd ?_
      refine sd ?_
      refine b_lt (fun t3=>?_) (fun t3=>?_)
      refine ar_sub ?_ ?_
      refine an ?_ ?_
      (show (-9223372036854775808:Int)≤(↑(List.length (sps (o++[(x,y)]))):Int) - (1:Int); omega)
      (show (↑(List.length (sps (o++[(x,y)]))):Int) - (1:Int)≤(9223372036854775807:Int); omega)
      refine an ?_ ?_
      refine an ?_ ?_
      exact rfl
      refine an ?_ ?_
      exact rfl
      refine an ?_ ?_
      (show (0:Int)≤(↑(List.length (sps (o++[(x,y)]))):Int) - (1:Int); omega)
      (show (↑(List.length (sps (o++[(x,y)]))):Int) - (1:Int) < (↑(List.length (sps (o++[(x,y)]))):Int); omega)
      refine sd ?_
      refine sd ?_
      refine ca hla ?_
      refine sd ?_
      refine b_f hx ?_
      refine ar_add ?_ ?_
      refine an ?_ ?_
      (show (-9223372036854775808:Int)≤(↑k:Int)+(1:Int); omega)
      (show (↑k:Int)+(1:Int)≤(9223372036854775807:Int); omega)
      refine ix_at hb1 ?_ ?_
      (show (0:Int)≤(↑k:Int)+(1:Int); omega)
      refine sd ?_
      refine sd ?_
      refine sd ?_
      refine an ?_ ?_
      refine an ?_ ?_
      exact rfl
      refine an ?_ ?_
      exact rfl
      refine an ?_ ?_
      exact rfl
      refine an ?_ ?_
      (show (List.length (sps (o++[(x,y)]))+(1:Nat)) * (16:Nat)≤(2:Nat) ^ (47:Nat); omega)
      (show List.length (sps (o++[(x,y)]))+(1:Nat)≤(2:Nat) ^ (47:Nat); omega)
      refine ar_add ?_ ?_
      refine an ?_ ?_
      (show (-9223372036854775808:Int)≤(↑k:Int)+(1:Int); omega)
      (show (↑k:Int)+(1:Int)≤(9223372036854775807:Int); omega)
      rotate_left
      (exfalso; omega)
      (exfalso; omega)
      all_goals exact fin
     | true =>
      have hy:y=a:=by simpa using hx
      rw [hx] at hi
      have hi:cutL (fun d=>(chainP l G ri ob d of).isSome) (C.drop (k+1)) (o++[(x,b)])=Y:=hi
      have hset:=sps_set o x y b
      have fin:=mkfin (o++[(x,b)]) (by rw [List.length_append]; show o.length+1≤_; omega) hi
      have hlen2:(sps (o++[(x,b)])).length=(sps (o++[(x,y)])).length:=by rw [sps_len,sps_len,List.length_append,List.length_append]; rfl
      rw [hlen2,← hset] at fin
      clear mkfin hset
      refine sd ?_
      refine b_lt (fun t2=>?_) (fun t2=>?_)
      refine ix_at hr1 ?_ ?_
      (show (0:Int)≤(↑k:Int); omega)
      refine ca c102_ ?_
      refine sd ?_
      refine sd ?_
      refine b_lt (fun t3=>?_) (fun t3=>?_)
      refine ar_sub ?_ ?_
      refine an ?_ ?_
      (show (-9223372036854775808:Int)≤(↑(List.length (sps (o++[(x,y)]))):Int) - (1:Int); omega)
      (show (↑(List.length (sps (o++[(x,y)]))):Int) - (1:Int)≤(9223372036854775807:Int); omega)
      refine an ?_ ?_
      refine an ?_ ?_
      exact rfl
      refine an ?_ ?_
      exact rfl
      refine an ?_ ?_
      (show (0:Int)≤(↑(List.length (sps (o++[(x,y)]))):Int) - (1:Int); omega)
      (show (↑(List.length (sps (o++[(x,y)]))):Int) - (1:Int) < (↑(List.length (sps (o++[(x,y)]))):Int); omega)
      refine sd ?_
      refine sd ?_
      refine ca hla ?_
      refine sd ?_
      refine b_t hx ?_
      refine ar_sub ?_ ?_
      refine an ?_ ?_
      (show (-9223372036854775808:Int)≤(↑(List.length (sps (o++[(x,y)]))):Int) - (1:Int); omega)
      (show (↑(List.length (sps (o++[(x,y)]))):Int) - (1:Int)≤(9223372036854775807:Int); omega)
      refine ar_add ?_ ?_
      refine an ?_ ?_
      (show (-9223372036854775808:Int)≤(↑k:Int)+(1:Int); omega)
      (show (↑k:Int)+(1:Int)≤(9223372036854775807:Int); omega)
      refine ix_at hb1 ?_ ?_
      (show (0:Int)≤(↑k:Int)+(1:Int); omega)
      refine an ?_ ?_
      refine an ?_ ?_
      exact rfl
      refine an ?_ ?_
      exact rfl
      refine an ?_ ?_
      (show (0:Int)≤(↑(List.length (sps (o++[(x,y)]))):Int) - (1:Int); omega)
      (show (↑(List.length (sps (o++[(x,y)]))):Int) - (1:Int) < (↑(List.length (sps (o++[(x,y)]))):Int); omega)
      refine sd ?_
      refine Exists.intro _ (Exists.intro (Vc.Data.agg [Data.int IntKind.i64 x,Data.int IntKind.i64 b]) (And.intro (And.intro ?_ (And.intro hla (And.intro rfl (And.intro ?_ (And.intro rfl rfl))))) ?_))
      exact rfl
      (show (0:Nat)+(1:Nat)+(1:Nat)≤(1:Nat)+(1:Nat); omega)
      refine ar_add ?_ ?_
      refine an ?_ ?_
      (show (-9223372036854775808:Int)≤(↑k:Int)+(1:Int); omega)
      (show (↑k:Int)+(1:Int)≤(9223372036854775807:Int); omega)
      rotate_left
      (exfalso; omega)
      (exfalso; omega)
      all_goals exact fin
  ·have e:k=C.length - 1:=by omega
   subst e
   have hi:out=Y:=by
    rw [drop_at (List.getElem?_eq_getElem hk),List.drop_eq_nil_of_le (by omega)] at hi
    exact hi
   subst hi
   refine sd ?_
   refine b_lt (fun t2=>?_) (fun t2=>?_)
   (exfalso; omega)
   refine sd ?_
   exact rfl
end Vc
