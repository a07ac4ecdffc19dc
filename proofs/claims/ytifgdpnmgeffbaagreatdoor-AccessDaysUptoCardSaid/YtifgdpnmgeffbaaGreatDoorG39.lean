import Derived.Test.YtifgdpnmgeffbaaGreatDoorG28
set_option linter.unusedSectionVars false
set_option linter.unusedVariables false
set_option linter.unusedSimpArgs false
set_option maxRecDepth 10000
set_option maxHeartbeats 4000000
namespace Vc
open Go Go.Proofs
def jr33:AFun:=⟨98,9,[.tmp 4],
 (.seq
 (.reg [0,1] [⟨some 2,.cbx 0 2 (.tmp 0),none⟩,
  ⟨some 3,.box 1 4 (.tmp 1),none⟩,
  ⟨some 4,.mov (.cst (.nils 2)),none⟩])
 (.seq
  (.reg [2] [⟨some 12,.bsl 2 3 1 2 [(.int .i64 0),(.int .i64 0)] [(0,(.cst (.d (.int .i64 0)))),(1,(.cst (.d (.int .i64 100001))))],none⟩,
   ⟨some 5,.mov (.tmp 12),none⟩])
  (.seq
  (.seq
   (.reg [] [⟨some 6,.mov (.cst (.d (.int .i64 0))),none⟩])
   (.post [2,3,5] [0,1,2,3,4,5,6]
   (.block 0
    (.asrow 4 3 1 5
    (.keep [2,3,5,6] [0,1,2]
     (.loop
     (.post [2,3,5,6] [3,4,5,6]
      (.seq
      (.seq
       (.reg [] [⟨some 13,.mov (.tmp 6),none⟩,
        ⟨some 14,.fad 1 (.tmp 2),none⟩,
        ⟨some 15,.ld false 1 (.tmp 14),none⟩,
        ⟨some 16,.len (.tmp 15),none⟩,
        ⟨some 17,.cmp .lss (.tmp 13) (.tmp 16),none⟩])
       (.cond (.tmp 17)
       .skip
       (.exit 0)))
      (.seq
       (.block 1
       (.regd [3,4,5,6] [⟨some 20,.mov (.tmp 5),none⟩,
        ⟨some 21,.fad 1 (.tmp 2),none⟩,
        ⟨some 22,.ld false 1 (.tmp 21),none⟩,
        ⟨some 23,.mov (.tmp 6),none⟩,
        ⟨some 24,.ixa 6 (.tmp 22) (.tmp 23),none⟩,
        ⟨some 25,.fad 4 (.tmp 24),none⟩,
        ⟨some 26,.fad 0 (.tmp 25),none⟩,
        ⟨some 27,.ld false 1 (.tmp 26),none⟩,
        ⟨some 28,.bsl 3 3 1 1 [(.int .i64 0)] [(0,(.tmp 27))],none⟩,
        ⟨some 29,.app 4 3 1 8 (.tmp 20) (.tmp 28),none⟩,
        ⟨some 30,.fad 1 (.tmp 2),none⟩,
        ⟨some 31,.ld false 1 (.tmp 30),none⟩,
        ⟨some 32,.mov (.tmp 6),none⟩,
        ⟨some 33,.ixa 6 (.tmp 31) (.tmp 32),none⟩,
        ⟨some 34,.fad 4 (.tmp 33),none⟩,
        ⟨some 35,.fad 1 (.tmp 34),none⟩,
        ⟨some 36,.ld false 1 (.tmp 35),none⟩,
        ⟨some 37,.bsl 5 3 1 1 [(.int .i64 0)] [(0,(.tmp 36))],none⟩,
        ⟨some 38,.app 6 3 1 8 (.tmp 29) (.tmp 37),none⟩,
        ⟨some 5,.mov (.tmp 38),none⟩] [(0,1),(0,2),(0,3),(1,3),(2,3),(0,4),(0,5),(0,6),(0,7),(0,8),(0,10),(1,10),(2,10),(3,10),(4,10),(5,10),(6,10),(7,10),(8,10),(9,10),(0,11),(1,11),(2,11),(3,11),(4,11),(5,11),(6,11),(7,11),(8,11),(9,11),(0,12),(1,12),(2,12),(3,12),(4,12),(5,12),(6,12),(7,12),(8,12),(9,12),(10,12),(11,12),(0,13),(1,13),(2,13),(3,13),(4,13),(5,13),(6,13),(7,13),(8,13),(9,13),(0,14),(1,14),(2,14),(3,14),(4,14),(5,14),(6,14),(7,14),(8,14),(9,14),(0,15),(1,15),(2,15),(3,15),(4,15),(5,15),(6,15),(7,15),(8,15),(9,15),(0,16),(1,16),(2,16),(3,16),(4,16),(5,16),(6,16),(7,16),(8,16),(9,16),(0,17),(1,17),(2,17),(3,17),(4,17),(5,17),(6,17),(7,17),(8,17),(9,17)]))
       (.reg [] [⟨some 18,.mov (.tmp 6),none⟩,
        ⟨some 19,.arith .add .i64 (.tmp 18) (.cst (.d (.int .i64 1))),none⟩,
        ⟨some 6,.mov (.tmp 19),none⟩]))))))))))
  (.seq
   (.reg [] [⟨some 7,.mov (.cst (.nils 2)),none⟩])
   (.seq
   (.reg [] [⟨some 8,.mov (.cst (.d (.int .i64 0))),none⟩])
   (.seq
    (.post [7] [0,1,2,3,4,5,6,7,8]
    (.block 2
     (.asrow 8 148 2 7
     (.keep [2,3,5,7,8] [0,1,2,3,4,5,6]
      (.loop
      (.post [2,3,5,7,8] [7,8]
       (.seq
       (.seq
        (.reg [] [⟨some 39,.mov (.tmp 8),none⟩,
         ⟨some 40,.cmp .leq (.tmp 39) (.cst (.d (.int .i64 100000))),none⟩])
        (.cond (.tmp 40)
        .skip
        (.exit 2)))
       (.block 3
        (.seq
        (.reg [] [⟨some 9,.mov (.cst (.d (.int .i64 100001))),none⟩])
        (.seq
         (.seq
         (.reg [] [⟨some 10,.mov (.cst (.d (.int .i64 0))),none⟩])
         (.post [2,3,5,7,8,9] [0,1,2,3,4,5,6]
          (.block 4
          (.keep [2,3,5,7,8,9,10] [0,1,2,3,4,5,6]
           (.loop
           (.post [2,3,5,7,8,9,10] []
            (.seq
            (.seq
             (.reg [] [⟨some 41,.mov (.tmp 10),none⟩,
              ⟨some 42,.mov (.tmp 5),none⟩,
              ⟨some 43,.len (.tmp 42),none⟩,
              ⟨some 44,.cmp .lss (.tmp 41) (.tmp 43),none⟩])
             (.cond (.tmp 44)
             .skip
             (.exit 4)))
            (.seq
             (.block 5
             (.seq
              (.reg [] [⟨some 47,.mov (.tmp 5),none⟩,
               ⟨some 48,.mov (.tmp 10),none⟩,
               ⟨some 49,.ixa 1 (.tmp 47) (.tmp 48),none⟩,
               ⟨some 50,.ld false 1 (.tmp 49),none⟩,
               ⟨some 51,.mov (.tmp 8),none⟩,
               ⟨some 52,.cmp .gtr (.tmp 50) (.tmp 51),none⟩,
               ⟨some 53,.mov (.tmp 52),none⟩,
               ⟨some 54,.mov (.tmp 5),some (53,true)⟩,
               ⟨some 55,.mov (.tmp 10),some (53,true)⟩,
               ⟨some 56,.ixa 1 (.tmp 54) (.tmp 55),some (53,true)⟩,
               ⟨some 57,.ld false 1 (.tmp 56),some (53,true)⟩,
               ⟨some 58,.mov (.tmp 9),some (53,true)⟩,
               ⟨some 59,.cmp .lss (.tmp 57) (.tmp 58),some (53,true)⟩,
               ⟨some 60,.pick (.tmp 53) (.tmp 59) (.cst (.d (.bool false))),none⟩])
              (.cond (.tmp 60)
              (.reg [] [⟨some 61,.mov (.tmp 5),none⟩,
               ⟨some 62,.mov (.tmp 10),none⟩,
               ⟨some 63,.ixa 1 (.tmp 61) (.tmp 62),none⟩,
               ⟨some 64,.ld false 1 (.tmp 63),none⟩,
               ⟨some 9,.mov (.tmp 64),none⟩])
              .skip)))
             (.reg [] [⟨some 45,.mov (.tmp 10),none⟩,
              ⟨some 46,.arith .add .i64 (.tmp 45) (.cst (.d (.int .i64 1))),none⟩,
              ⟨some 10,.mov (.tmp 46),none⟩])))))))))
         (.seq
         (.reg [] [⟨some 65,.mov (.tmp 8),none⟩,
          ⟨some 66,.fad 3 (.tmp 3),none⟩,
          ⟨none,.st 1 (.tmp 66) (.tmp 65),none⟩])
         (.seq
          (.seq
          (.reg [] [⟨some 67,.ld true 2 (.tmp 2),none⟩,
           ⟨some 68,.ld true 4 (.tmp 3),none⟩,
           ⟨some 69,.call 23 [(.tmp 67),(.tmp 68)],none⟩])
          (.cond (.tmp 69)
           (.seq
           (.reg [] [⟨some 70,.mov (.tmp 7),none⟩,
            ⟨some 71,.len (.tmp 70),none⟩,
            ⟨some 11,.mov (.tmp 71),none⟩])
           (.seq
            (.reg [] [⟨some 72,.mov (.tmp 11),none⟩,
             ⟨some 73,.cmp .gtr (.tmp 72) (.cst (.d (.int .i64 0))),none⟩,
             ⟨some 74,.mov (.tmp 73),none⟩,
             ⟨some 75,.mov (.tmp 7),some (74,true)⟩,
             ⟨some 76,.mov (.tmp 11),some (74,true)⟩,
             ⟨some 77,.arith .sub .i64 (.tmp 76) (.cst (.d (.int .i64 1))),some (74,true)⟩,
             ⟨some 78,.ixa 2 (.tmp 75) (.tmp 77),some (74,true)⟩,
             ⟨some 79,.fad 1 (.tmp 78),some (74,true)⟩,
             ⟨some 80,.ld false 1 (.tmp 79),some (74,true)⟩,
             ⟨some 81,.mov (.tmp 8),some (74,true)⟩,
             ⟨some 82,.cmp .eql (.tmp 80) (.tmp 81),some (74,true)⟩,
             ⟨some 83,.pick (.tmp 74) (.tmp 82) (.cst (.d (.bool false))),none⟩])
            (.cond (.tmp 83)
            (.reg [] [⟨some 84,.mov (.tmp 7),none⟩,
             ⟨some 85,.mov (.tmp 11),none⟩,
             ⟨some 86,.arith .sub .i64 (.tmp 85) (.cst (.d (.int .i64 1))),none⟩,
             ⟨some 87,.mov (.tmp 9),none⟩,
             ⟨some 88,.ixa 2 (.tmp 84) (.tmp 86),none⟩,
             ⟨some 89,.fad 1 (.tmp 88),none⟩,
             ⟨none,.st 1 (.tmp 89) (.tmp 87),none⟩])
            (.reg [7,8] [⟨some 90,.mov (.tmp 7),none⟩,
             ⟨some 91,.mov (.tmp 8),none⟩,
             ⟨some 92,.mov (.tmp 9),none⟩,
             ⟨some 93,.build [(.d (.int .i64 0)),(.d (.int .i64 0))] [(0,1,(.tmp 91)),(1,1,(.tmp 92))],none⟩,
             ⟨some 94,.bsl 7 148 2 1 [(.agg [(.int .i64 0),(.int .i64 0)])] [(0,(.tmp 93))],none⟩,
             ⟨some 95,.app 8 148 2 16 (.tmp 90) (.tmp 94),none⟩,
             ⟨some 7,.mov (.tmp 95),none⟩]))))
           .skip))
          (.reg [] [⟨some 96,.mov (.tmp 9),none⟩,
           ⟨some 8,.mov (.tmp 96),none⟩])))))))))))))
    (.seq
    (.reg [] [⟨some 97,.mov (.tmp 7),none⟩,
     ⟨some 4,.mov (.tmp 97),none⟩])
    .ret)))))))⟩
theorem ints_two2 (E:List Int) (a b:Int):ints (E++[a,b])=(ints E++[Data.int .i64 a])++[Data.int .i64 b]:=by
 rw [ints_two,List.append_assoc]; rfl
theorem c33 (l:List Ob) (G:List Gr) (of ri ob:Nm) (day:Int) (hl:l.length≤1048576) (hG:G.length≤32):CallDet Tryz.prog 33 [.d (.agg [.slice 2 (obs l),.slice 6 (grs G)]),.d (.agg [.str of,.str ri,.str ob,.int .i64 day])] [.slice 2 (sps (dayL (fun d=>(chainP l G ri ob d of).isSome) (endsF G [0,100001]) 100001 0 []))]:=by
 generalize hX:endsF G [0,100001]=X
 have hXl:X.length=2+2 * G.length:=by rw [← hX]; exact endsF_len G _
 generalize hf:(100001:Nat)=f0
 have hf0:(100001:Int)=(f0:Int):=by omega
 generalize hY:dayL (fun d=>(chainP l G ri ob d of).isSome) X f0 0 []=Y
 refine call_of_vc (x:=jr33) (by kernel_rfl) rfl ?_
 refine sd ?_
 rotate_left
 refine loop_st (fun p:Nat × List Int=>⟨[(2,.ptr 0 0),(3,.ptr 1 0),(5,.sl 2 (ints (p.2)).length),(6,.d (.int .i64 ((p.1:Nat))))],[.cbox [.slice 2 (obs l),.slice 6 (grs G)],.box [.d (.str of),.d (.str ri),.d (.str ob),.d (.int .i64 (day))],.row 3 1 (ints (p.2)) false,.none,.none,.none,.none,.none,.none]⟩) (fun p=>(p.1≤G.length∧p.2.length=2+2 * p.1)∧endsF (G.drop p.1) p.2=X) (fun p=>G.length - p.1) (0,[0,100001]) rfl ⟨⟨Nat.zero_le _,rfl⟩,hX⟩ ?_
 clear hX
 rintro ⟨k,E⟩ ⟨⟨hk0,hE0⟩,hi0⟩
 have hk:k≤G.length:=hk0
 have hE:E.length=2+2 * k:=hE0
 have hi:endsF (G.drop k) E=X:=hi0
 clear hk0 hE0 hi0
 dsimp only
 have hil:=ints_len E
 have hlg:=grs_len G
 by_cases hkn:k < G.length
 ·refine Exists.elim (get_lt G hkn) fun g hx=>?_
  have hx1:=grs_at hx
  rw [drop_at hx,endsF] at hi
  have fin:∃ a':Nat × List Int,(((a'.1≤G.length∧a'.2.length=2+2 * a'.1)∧endsF (G.drop a'.1) a'.2=X)∧G.length - a'.1 < G.length - k)∧(⟨[(2,.ptr 0 0),(3,.ptr 1 0),(5,.sl 2 (ints (E++[g.a,g.b])).length),(6,.d (.int .i64 ((k:Int)+1)))],[.cbox [.slice 2 (obs l),.slice 6 (grs G)],.box [.d (.str of),.d (.str ri),.d (.str ob),.d (.int .i64 (day))],.row 3 1 (ints (E++[g.a,g.b])) false,.none,.none,.none,.none,.none,.none]⟩:St)=⟨[(2,.ptr 0 0),(3,.ptr 1 0),(5,.sl 2 (ints (a'.2)).length),(6,.d (.int .i64 ((a'.1:Nat))))],[.cbox [.slice 2 (obs l),.slice 6 (grs G)],.box [.d (.str of),.d (.str ri),.d (.str ob),.d (.int .i64 (day))],.row 3 1 (ints (a'.2)) false,.none,.none,.none,.none,.none,.none]⟩:=⟨(k+1,E++[g.a,g.b]),⟨⟨⟨by show k+1≤G.length; omega,by show (E++[g.a,g.b]).length=2+2 * (k+1); rw [List.length_append]; show E.length+2=_; omega⟩,hi⟩,by show G.length - (k+1) < G.length - k; omega⟩,rfl⟩
  rw [ints_two2] at fin
  have hlx:List.length (ints E++[Data.int .i64 g.a])=E.length+1:=by rw [List.length_append,hil]; rfl
  refine sd ?_
  refine b_lt (fun t1=>?_) (fun t1=>?_)
  refine ix_at hx1 ?_ ?_
  (show (0:Int)≤(↑k:Int); omega)
  refine sd ?_
  refine sd ?_
  refine sd ?_
  refine an ?_ ?_
  refine an ?_ ?_
  exact rfl
  refine an ?_ ?_
  exact rfl
  refine an ?_ ?_
  exact rfl
  refine an ?_ ?_
  (show (List.length (ints E)+(1:Nat)) * (8:Nat)≤(2:Nat) ^ (47:Nat); omega)
  (show List.length (ints E)+(1:Nat)≤(2:Nat) ^ (47:Nat); omega)
  refine ix_at hx1 ?_ ?_
  (show (0:Int)≤(↑k:Int); omega)
  refine sd ?_
  refine sd ?_
  refine sd ?_
  refine an ?_ ?_
  refine an ?_ ?_
  exact rfl
  refine an ?_ ?_
  exact rfl
  refine an ?_ ?_
  exact rfl
  refine an ?_ ?_
  (show (List.length (ints E++[Data.int IntKind.i64 (Gr.a g)])+(1:Nat)) * (8:Nat)≤(2:Nat) ^ (47:Nat); omega)
  (show List.length (ints E++[Data.int IntKind.i64 (Gr.a g)])+(1:Nat)≤(2:Nat) ^ (47:Nat); omega)
  refine ar_add ?_ ?_
  refine an ?_ ?_
  (show (-9223372036854775808:Int)≤(↑k:Int)+(1:Int); omega)
  (show (↑k:Int)+(1:Int)≤(9223372036854775807:Int); omega)
  rotate_left
  (exfalso; omega)
  all_goals exact fin
 ·have e:k=G.length:=by omega
  subst e
  rw [List.drop_eq_nil_of_le (Nat.le_refl _)] at hi
  have hi:E=X:=hi
  subst hi
  have hX32:E.length≤66:=by omega
  generalize hEX:E=X at hX32 hil hY ⊢
  clear hXl hE hEX
  refine sd ?_
  refine b_lt (fun t1=>?_) (fun t1=>?_)
  (exfalso; omega)
  rotate_left
  refine loop_st (fun p:(Nat × Int) × (Int × List (Int × Int))=>⟨[(2,.ptr 0 0),(3,.ptr 1 0),(5,.sl 2 (ints X).length),(7,.sl 8 (sps (p.2.2)).length),(8,.d (.int .i64 (p.1.2)))],[.cbox [.slice 2 (obs l),.slice 6 (grs G)],.box [.d (.str of),.d (.str ri),.d (.str ob),.d (.int .i64 (p.2.1))],.row 3 1 (ints (X)) false,.none,.none,.none,.none,.none,.row 148 2 (sps (p.2.2)) false]⟩) (fun p=>((0≤p.1.2∧p.1.2≤100001)∧((100001:Int) - p.1.2≤(p.1.1:Int)∧((p.2.2.length:Int)≤p.1.2∧(p.1.1:Int)≤100001)))∧dayL (fun d=>(chainP l G ri ob d of).isSome) X p.1.1 p.1.2 p.2.2=Y) (fun p=>p.1.1) ((f0,0),(day,[])) rfl ⟨⟨⟨Int.le_refl _,by show (0:Int)≤100001; decide⟩,by show (100001:Int) - 0≤(f0:Int); omega,Int.le_refl _,by show (f0:Int)≤100001; omega⟩,hY⟩ ?_
  clear hY hf hf0
  rintro ⟨⟨f,d⟩,⟨c,out⟩⟩ ⟨⟨⟨hd0,hd1⟩,hf1,hol,hff⟩,hi0⟩
  have hd0:0≤d:=hd0
  have hd1:d≤100001:=hd1
  have hf1:(100001:Int) - d≤(f:Int):=hf1
  have hol:(out.length:Int)≤d:=hol
  have hi:dayL (fun d=>(chainP l G ri ob d of).isSome) X f d out=Y:=hi0
  clear hi0
  dsimp only
  have hso:=sps_len out
  by_cases hd:d≤100000
  ·cases f with
   | zero=>exact absurd hf1 (by omega)
   | succ f =>
   have hff:((f+1:Nat):Int)≤100001:=hff
   rw [dayL,decide_eq_true hd] at hi
   obtain ⟨_,hn1,hn2,_⟩:=nxE_spec d X 100001 (by omega)
   generalize hN:nxE d X 100001=N at hi hn1 hn2
   refine sd ?_
   refine b_le (fun t2=>?_) (fun t2=>?_)
   rotate_left
   (exfalso; omega)
   refine loop_st (fun p:Nat × Int=>⟨[(2,.ptr 0 0),(3,.ptr 1 0),(5,.sl 2 (ints X).length),(7,.sl 8 (sps out).length),(8,.d (.int .i64 d)),(9,.d (.int .i64 (p.2))),(10,.d (.int .i64 ((p.1:Nat))))],[.cbox [.slice 2 (obs l),.slice 6 (grs G)],.box [.d (.str of),.d (.str ri),.d (.str ob),.d (.int .i64 (c))],.row 3 1 (ints (X)) false,.none,.none,.none,.none,.none,.row 148 2 (sps (out)) false]⟩) (fun p=>p.1≤X.length∧nxE d (X.drop p.1) p.2=N) (fun p=>X.length - p.1) (0,100001) rfl ⟨Nat.zero_le _,hN⟩ ?_
   clear hN
   rintro ⟨j,n⟩ ⟨hj0,hj1⟩
   have hj:j≤X.length:=hj0
   have hjn:nxE d (X.drop j) n=N:=hj1
   clear hj0 hj1
   dsimp only
   by_cases hjk:j < X.length
   ·refine Exists.elim (get_lt X hjk) fun e he=>?_
    have he1:(ints X)[((j:Nat):Int).toNat]?=some (Data.int .i64 e):=ints_get he
    rw [drop_at he,nxE] at hjn
    have mk:∀ m:Int,nxE d (X.drop (j+1)) m=N→∃ a':Nat × Int,((a'.1≤X.length∧nxE d (X.drop a'.1) a'.2=N)∧X.length - a'.1 < X.length - j)∧(⟨[(2,.ptr 0 0),(3,.ptr 1 0),(5,.sl 2 (ints X).length),(7,.sl 8 (sps out).length),(8,.d (.int .i64 d)),(9,.d (.int .i64 (m))),(10,.d (.int .i64 ((j:Int)+1)))],[.cbox [.slice 2 (obs l),.slice 6 (grs G)],.box [.d (.str of),.d (.str ri),.d (.str ob),.d (.int .i64 (c))],.row 3 1 (ints (X)) false,.none,.none,.none,.none,.none,.row 148 2 (sps (out)) false]⟩:St)=⟨[(2,.ptr 0 0),(3,.ptr 1 0),(5,.sl 2 (ints X).length),(7,.sl 8 (sps out).length),(8,.d (.int .i64 d)),(9,.d (.int .i64 (a'.2))),(10,.d (.int .i64 ((a'.1:Nat))))],[.cbox [.slice 2 (obs l),.slice 6 (grs G)],.box [.d (.str of),.d (.str ri),.d (.str ob),.d (.int .i64 (c))],.row 3 1 (ints (X)) false,.none,.none,.none,.none,.none,.row 148 2 (sps (out)) false]⟩:=fun m h=>⟨(j+1,m),⟨⟨by show j+1≤X.length; omega,h⟩,by show X.length - (j+1) < X.length - j; omega⟩,rfl⟩
    by_cases h1:d < e
    ·by_cases h2:e < n
     ·rw [decide_eq_true h1,decide_eq_true h2] at hjn
      have fin:=mk e hjn
      clear mk
      refine sd ?_
      refine sd ?_
      refine b_lt (fun t3=>?_) (fun t3=>?_)
      refine an ?_ ?_
      refine an ?_ ?_
      exact rfl
      refine an ?_ ?_
      exact rfl
      refine an ?_ ?_
      (show (0:Int)≤(↑j:Int); omega)
      assumption
      refine sd ?_
      refine ca he1 ?_
      refine sd ?_
      refine b_lt (fun t4=>?_) (fun t4=>?_)
      refine an ?_ ?_
      refine an ?_ ?_
      exact rfl
      refine an ?_ ?_
      exact rfl
      refine an ?_ ?_
      (show (0:Int)≤(↑j:Int); omega)
      assumption
      refine sd ?_
      refine ca he1 ?_
      refine sd ?_
      refine b_lt (fun t5=>?_) (fun t5=>?_)
      refine an ?_ ?_
      refine an ?_ ?_
      exact rfl
      refine an ?_ ?_
      exact rfl
      refine an ?_ ?_
      (show (0:Int)≤(↑j:Int); omega)
      assumption
      refine sd ?_
      refine ca he1 ?_
      refine ar_add ?_ ?_
      refine an ?_ ?_
      (show (-9223372036854775808:Int)≤(↑j:Int)+(1:Int); omega)
      (show (↑j:Int)+(1:Int)≤(9223372036854775807:Int); omega)
      rotate_left
      (exfalso; omega)
      (exfalso; omega)
      (exfalso; omega)
      all_goals exact fin
     ·rw [decide_eq_true h1,decide_eq_false h2] at hjn
      have fin:=mk n hjn
      clear mk
      refine sd ?_
      refine sd ?_
      refine b_lt (fun t3=>?_) (fun t3=>?_)
      refine an ?_ ?_
      refine an ?_ ?_
      exact rfl
      refine an ?_ ?_
      exact rfl
      refine an ?_ ?_
      (show (0:Int)≤(↑j:Int); omega)
      assumption
      refine sd ?_
      refine ca he1 ?_
      refine sd ?_
      refine b_lt (fun t4=>?_) (fun t4=>?_)
      refine an ?_ ?_
      refine an ?_ ?_
      exact rfl
      refine an ?_ ?_
      exact rfl
      refine an ?_ ?_
      (show (0:Int)≤(↑j:Int); omega)
      assumption
      refine sd ?_
      refine ca he1 ?_
      refine sd ?_
      refine b_lt (fun t5=>?_) (fun t5=>?_)
      (exfalso; omega)
      refine ar_add ?_ ?_
      refine an ?_ ?_
      (show (-9223372036854775808:Int)≤(↑j:Int)+(1:Int); omega)
      (show (↑j:Int)+(1:Int)≤(9223372036854775807:Int); omega)
      rotate_left
      (exfalso; omega)
      (exfalso; omega)
      all_goals exact fin
    ·rw [decide_eq_false h1] at hjn
     have fin:=mk n hjn
     clear mk
     refine sd ?_
     refine sd ?_
     refine b_lt (fun t3=>?_) (fun t3=>?_)
     refine an ?_ ?_
     refine an ?_ ?_
     exact rfl
     refine an ?_ ?_
     exact rfl
     refine an ?_ ?_
     (show (0:Int)≤(↑j:Int); omega)
     assumption
     refine sd ?_
     refine ca he1 ?_
     refine sd ?_
     refine b_lt (fun t4=>?_) (fun t4=>?_)
     (exfalso; omega)
     refine sd ?_
     refine ar_add ?_ ?_
     refine an ?_ ?_
     (show (-9223372036854775808:Int)≤(↑j:Int)+(1:Int); omega)
     (show (↑j:Int)+(1:Int)≤(9223372036854775807:Int); omega)
     rotate_left
     (exfalso; omega)
     all_goals exact fin
   ·have e:j=X.length:=by omega
    subst e
    rw [List.drop_eq_nil_of_le (Nat.le_refl _)] at hjn
    have hjn:n=N:=hjn
    subst hjn
    have hk:=ho_HK l G ri ob d hG
    have hr:=chain_ref ri ob d of l G
    have c23_:=c23 l G of ri ob d hl hG (by have:=hk.hc; omega)
    rw [hr.1] at c23_
    clear hr hk
    have mk:∀ o:List (Int × Int),(o.length:Int)≤d+1→dayL (fun d=>(chainP l G ri ob d of).isSome) X f n o=Y→∃ a':(Nat × Int) × (Int × List (Int × Int)),((((0≤a'.1.2∧a'.1.2≤100001)∧((100001:Int) - a'.1.2≤(a'.1.1:Int)∧((a'.2.2.length:Int)≤a'.1.2∧(a'.1.1:Int)≤100001)))∧dayL (fun d=>(chainP l G ri ob d of).isSome) X a'.1.1 a'.1.2 a'.2.2=Y)∧a'.1.1 < f+1)∧(⟨[(2,.ptr 0 0),(3,.ptr 1 0),(5,.sl 2 (ints X).length),(7,.sl 8 (sps (o)).length),(8,.d (.int .i64 (n)))],[.cbox [.slice 2 (obs l),.slice 6 (grs G)],.box [.d (.str of),.d (.str ri),.d (.str ob),.d (.int .i64 (d))],.row 3 1 (ints (X)) false,.none,.none,.none,.none,.none,.row 148 2 (sps (o)) false]⟩:St)=⟨[(2,.ptr 0 0),(3,.ptr 1 0),(5,.sl 2 (ints X).length),(7,.sl 8 (sps (a'.2.2)).length),(8,.d (.int .i64 (a'.1.2)))],[.cbox [.slice 2 (obs l),.slice 6 (grs G)],.box [.d (.str of),.d (.str ri),.d (.str ob),.d (.int .i64 (a'.2.1))],.row 3 1 (ints (X)) false,.none,.none,.none,.none,.none,.row 148 2 (sps (a'.2.2)) false]⟩:=fun o ho h=>⟨((f,n),(d,o)),⟨⟨⟨⟨by show 0≤n; omega,by show n≤100001; omega⟩,by show (100001:Int) - n≤(f:Int); omega,by show (o.length:Int)≤n; omega,by show (f:Int)≤100001; omega⟩,h⟩,Nat.lt_succ_self f⟩,rfl⟩
    cases hp:(chainP l G ri ob d of).isSome with
    | false =>
     rw [hp] at c23_
     have hi:dayL (fun d=>(chainP l G ri ob d of).isSome) X f n out=Y:=by
      rw [show (chainP l G ri ob d of).isSome=false from hp] at hi
      exact hi
     have fin:=mk out (by omega) hi
     clear mk
     refine sd ?_
     refine sd ?_
     refine b_lt (fun t3=>?_) (fun t3=>?_)
     (exfalso; omega)
     refine ca c23_ ?_
     rotate_left
     all_goals exact fin
    | true =>
     rw [hp] at c23_
     have hi:dayL (fun d=>(chainP l G ri ob d of).isSome) X f n (pushD d n out)=Y:=by
      rw [show (chainP l G ri ob d of).isSome=true from hp] at hi
      exact hi
     rcases snoc_cases out with rfl | ⟨o,⟨x,y⟩,rfl⟩
     ·have fin:=mk [(d,n)] (by show (1:Int)≤d+1; omega) hi
      clear mk
      refine sd ?_
      refine sd ?_
      refine b_lt (fun t3=>?_) (fun t3=>?_)
      (exfalso; omega)
      refine ca c23_ ?_
      refine sd ?_
      refine sd ?_
      refine sd ?_
      refine sd ?_
      refine sd ?_
      refine sd ?_
      refine an ?_ ?_
      refine an ?_ ?_
      exact rfl
      refine an ?_ ?_
      exact rfl
      refine an ?_ ?_
      exact rfl
      refine an ?_ ?_
      (show ((0:Nat)+(1:Nat)) * (16:Nat)≤(2:Nat) ^ (47:Nat); omega)
      (show (0:Nat)+(1:Nat)≤(2:Nat) ^ (47:Nat); omega)
      rotate_left
      all_goals exact fin
     ·rw [pushD_snoc] at hi
      have hol2:(o++[(x,y)]).length=o.length+1:=List.length_append
      have hla:=sps_last o x y
      dsimp only at hi
      cases hx:(y==d) with
      | false =>
       have hy:y≠d:=by simpa using hx
       rw [hx] at hi
       have hi:dayL (fun d=>(chainP l G ri ob d of).isSome) X f n ((o++[(x,y)])++[(d,n)])=Y:=hi
       have fin:=mk ((o++[(x,y)])++[(d,n)]) (by rw [List.length_append]; show (((o++[(x,y)]).length+1:Nat):Int)≤_; omega) hi
       rw [sps_snoc (o++[(x,y)])] at fin
       clear mk
       refine sd ?_
       refine sd ?_
       refine b_lt (fun t3=>?_) (fun t3=>?_)
       (exfalso; omega)
       refine ca c23_ ?_
       refine sd ?_
       refine sd ?_
       refine b_lt (fun t4=>?_) (fun t4=>?_)
       refine ar_sub ?_ ?_
       refine an ?_ ?_
       (show (-9223372036854775808:Int)≤(↑(List.length (sps (o++[(x,y)]))):Int) - (1:Int); omega)
       (show (↑(List.length (sps (o++[(x,y)]))):Int) - (1:Int)≤(9223372036854775807:Int); omega)
       refine an ?_ ?_
       refine an ?_ ?_
       exact rfl
       refine an ?_ ?_
       exact rfl
       refine an ?_ ?_
       (show (0:Int)≤(↑(List.length (sps (o++[(x,y)]))):Int) - (1:Int); omega)
       (show (↑(List.length (sps (o++[(x,y)]))):Int) - (1:Int) < (↑(List.length (sps (o++[(x,y)]))):Int); omega)
       refine sd ?_
       refine sd ?_
       refine ca hla ?_
       refine sd ?_
       refine b_f hx ?_
       refine sd ?_
       refine sd ?_
       refine sd ?_
       refine an ?_ ?_
       refine an ?_ ?_
       exact rfl
       refine an ?_ ?_
       exact rfl
       refine an ?_ ?_
       exact rfl
       refine an ?_ ?_
       (show (List.length (sps (o++[(x,y)]))+(1:Nat)) * (16:Nat)≤(2:Nat) ^ (47:Nat); omega)
       (show List.length (sps (o++[(x,y)]))+(1:Nat)≤(2:Nat) ^ (47:Nat); omega)
       rotate_left
       (exfalso; omega)
       all_goals exact fin
      | true =>
       have hy:y=d:=by simpa using hx
       rw [hx] at hi
       have hi:dayL (fun d=>(chainP l G ri ob d of).isSome) X f n (o++[(x,n)])=Y:=hi
       have hset:=sps_set o x y n
       have fin:=mk (o++[(x,n)]) (by rw [List.length_append]; show ((o.length+1:Nat):Int)≤_; omega) hi
       have hlen2:(sps (o++[(x,n)])).length=(sps (o++[(x,y)])).length:=by rw [sps_len,sps_len,List.length_append,List.length_append]; rfl
       rw [hlen2,← hset] at fin
       clear mk hset
       refine sd ?_
       refine sd ?_
       refine b_lt (fun t3=>?_) (fun t3=>?_)
       (exfalso; omega)
       refine ca c23_ ?_
       refine sd ?_
       refine sd ?_
       refine b_lt (fun t4=>?_) (fun t4=>?_)
       refine ar_sub ?_ ?_
       refine an ?_ ?_
       (show (-9223372036854775808:Int)≤(↑(List.length (sps (o++[(x,y)]))):Int) - (1:Int); omega)
       (show (↑(List.length (sps (o++[(x,y)]))):Int) - (1:Int)≤(9223372036854775807:Int); omega)
       refine an ?_ ?_
       refine an ?_ ?_
       exact rfl
       refine an ?_ ?_
       exact rfl
       refine an ?_ ?_
       (show (0:Int)≤(↑(List.length (sps (o++[(x,y)]))):Int) - (1:Int); omega)
       (show (↑(List.length (sps (o++[(x,y)]))):Int) - (1:Int) < (↑(List.length (sps (o++[(x,y)]))):Int); omega)
       refine sd ?_
       refine sd ?_
       refine ca hla ?_
       refine sd ?_
       refine b_t hx ?_
       refine ar_sub ?_ ?_
       refine an ?_ ?_
       (show (-9223372036854775808:Int)≤(↑(List.length (sps (o++[(x,y)]))):Int) - (1:Int); omega)
       (show (↑(List.length (sps (o++[(x,y)]))):Int) - (1:Int)≤(9223372036854775807:Int); omega)
       refine an ?_ ?_
       refine an ?_ ?_
       exact rfl
       refine an ?_ ?_
       exact rfl
       refine an ?_ ?_
       (show (0:Int)≤(↑(List.length (sps (o++[(x,y)]))):Int) - (1:Int); omega)
       (show (↑(List.length (sps (o++[(x,y)]))):Int) - (1:Int) < (↑(List.length (sps (o++[(x,y)]))):Int); omega)
       refine sd ?_
       refine Exists.intro _ (Exists.intro (Vc.Data.agg [Data.int IntKind.i64 x,Data.int IntKind.i64 n]) (And.intro (And.intro ?_ (And.intro hla (And.intro rfl (And.intro ?_ (And.intro rfl rfl))))) ?_))
       exact rfl
       (show (0:Nat)+(1:Nat)+(1:Nat)≤(1:Nat)+(1:Nat); omega)
       rotate_left
       (exfalso; omega)
       all_goals exact fin
  ·have hi : out = Y := by
    cases f with
    | zero=>exact hi
    | succ f =>
     rw [dayL,decide_eq_false hd] at hi
     exact hi
   subst hi
   refine sd ?_
   refine b_le (fun t2=>?_) (fun t2=>?_)
   (exfalso; omega)
   refine sd ?_
   exact rfl
end Vc
