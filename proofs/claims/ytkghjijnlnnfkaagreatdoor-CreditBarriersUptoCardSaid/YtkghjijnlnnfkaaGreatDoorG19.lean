import Derived.Test.YtkghjijnlnnfkaaGreatDoorG18
set_option linter.unusedSectionVars false
set_option linter.unusedVariables false
set_option linter.unusedSimpArgs false
set_option maxRecDepth 10000
set_option maxHeartbeats 4000000
namespace Vc
open Go Go.Proofs
def jr127:AFun:=⟨16,1,[.tmp 2],
 (.seq
 (.reg [0] [⟨some 1,.cbx 0 3 (.tmp 0),none⟩,
  ⟨some 2,.mov (.cst (.d (.int .i64 0))),none⟩])
 (.seq
  (.seq
  (.reg [] [⟨some 3,.fad 2 (.tmp 1),none⟩,
   ⟨some 4,.ld false 1 (.tmp 3),none⟩,
   ⟨some 5,.len (.tmp 4),none⟩,
   ⟨some 6,.cmp .eql (.tmp 5) (.cst (.d (.int .i64 0))),none⟩])
  (.cond (.tmp 6)
   (.seq
   (.reg [] [⟨some 2,.mov (.cst (.d (.int .i64 0))),none⟩])
   .ret)
   .skip))
  (.seq
  (.reg [] [⟨some 7,.fad 2 (.tmp 1),none⟩,
   ⟨some 8,.ld false 1 (.tmp 7),none⟩,
   ⟨some 9,.fad 2 (.tmp 1),none⟩,
   ⟨some 10,.ld false 1 (.tmp 9),none⟩,
   ⟨some 11,.len (.tmp 10),none⟩,
   ⟨some 12,.arith .sub .i64 (.tmp 11) (.cst (.d (.int .i64 1))),none⟩,
   ⟨some 13,.ixa 2 (.tmp 8) (.tmp 12),none⟩,
   ⟨some 14,.fad 1 (.tmp 13),none⟩,
   ⟨some 15,.ld false 1 (.tmp 14),none⟩,
   ⟨some 2,.mov (.tmp 15),none⟩])
  .ret)))⟩
def jr124:AFun:=⟨22,1,[.tmp 4],
 (.seq
 (.reg [0] [⟨some 2,.cbx 0 3 (.tmp 0),none⟩,
  ⟨some 4,.mov (.cst (.d (.bool false))),none⟩])
 (.seq
  (.reg [] [⟨some 5,.fad 2 (.tmp 2),none⟩,
   ⟨some 6,.ld false 1 (.tmp 5),none⟩,
   ⟨some 7,.len (.tmp 6),none⟩,
   ⟨some 8,.cmp .gtr (.tmp 7) (.cst (.d (.int .i64 0))),none⟩,
   ⟨some 9,.mov (.tmp 8),none⟩,
   ⟨some 10,.mov (.tmp 1),some (9,true)⟩,
   ⟨some 11,.fad 2 (.tmp 2),some (9,true)⟩,
   ⟨some 12,.ld false 1 (.tmp 11),some (9,true)⟩,
   ⟨some 13,.fad 2 (.tmp 2),some (9,true)⟩,
   ⟨some 14,.ld false 1 (.tmp 13),some (9,true)⟩,
   ⟨some 15,.len (.tmp 14),some (9,true)⟩,
   ⟨some 16,.arith .sub .i64 (.tmp 15) (.cst (.d (.int .i64 1))),some (9,true)⟩,
   ⟨some 17,.ixa 2 (.tmp 12) (.tmp 16),some (9,true)⟩,
   ⟨some 18,.fad 1 (.tmp 17),some (9,true)⟩,
   ⟨some 19,.ld false 1 (.tmp 18),some (9,true)⟩,
   ⟨some 20,.cmp .lss (.tmp 10) (.tmp 19),some (9,true)⟩,
   ⟨some 21,.pick (.tmp 9) (.tmp 20) (.cst (.d (.bool false))),none⟩,
   ⟨some 4,.mov (.tmp 21),none⟩])
  .ret))⟩
def jr58:AFun:=⟨26,6,[.cell 2 3 true],
 (.seq
 (.reg [0,1] [⟨some 1,.cbx 0 3 (.tmp 0),none⟩,
  ⟨some 2,.alloc 1 [(.d (.bool false)),(.d (.bool false)),(.nils 2)],none⟩])
 (.seq
  (.reg [2] [⟨some 6,.fad 0 (.tmp 1),none⟩,
   ⟨some 7,.ld false 1 (.tmp 6),none⟩,
   ⟨some 8,.fad 1 (.tmp 1),none⟩,
   ⟨some 9,.ld false 1 (.tmp 8),none⟩,
   ⟨some 10,.build [(.d (.bool false)),(.d (.bool false)),(.nils 2)] [(0,1,(.tmp 7)),(1,1,(.tmp 9))],none⟩,
   ⟨some 3,.alloc 2 [(.d (.bool false)),(.d (.bool false)),(.nils 2)],none⟩,
   ⟨none,.st 3 (.tmp 3) (.tmp 10),none⟩])
  (.seq
  (.seq
   (.reg [] [⟨some 11,.fad 2 (.tmp 1),none⟩,
    ⟨some 12,.ld false 1 (.tmp 11),none⟩,
    ⟨some 13,.len (.tmp 12),none⟩,
    ⟨some 14,.mov (.cst (.d (.int .i64 0))),none⟩])
   (.post [2,3] [0,1,2,3,4,5]
   (.block 0
    (.keep [2,3,12,13,14] [0,1,2]
    (.loop
     (.post [2,3,12,13,14] [3,4,5]
     (.seq
      (.reg [] [⟨some 15,.cmp .lss (.tmp 14) (.tmp 13),none⟩])
      (.seq
      (.cond (.tmp 15)
       .skip
       (.exit 0))
      (.seq
       (.block 1
       (.seq
        (.reg [3] [⟨some 16,.ixa 2 (.tmp 12) (.tmp 14),none⟩,
         ⟨some 17,.ld true 2 (.tmp 16),none⟩,
         ⟨some 5,.alloc 3 [(.d (.str [])),(.d (.int .i64 0))],none⟩,
         ⟨none,.st 2 (.tmp 5) (.tmp 17),none⟩])
        (.reg [4,5] [⟨some 18,.fad 2 (.tmp 3),none⟩,
         ⟨some 19,.ld false 1 (.tmp 18),none⟩,
         ⟨some 20,.ld true 2 (.tmp 5),none⟩,
         ⟨some 21,.bsl 4 156 2 1 [(.agg [(.str []),(.int .i64 0)])] [(0,(.tmp 20))],none⟩,
         ⟨some 22,.app 5 156 2 24 (.tmp 19) (.tmp 21),none⟩,
         ⟨some 23,.fad 2 (.tmp 3),none⟩,
         ⟨none,.st 1 (.tmp 23) (.tmp 22),none⟩])))
       (.reg [] [⟨some 24,.arith .add .i64 (.tmp 14) (.cst (.d (.int .i64 1))),none⟩,
        ⟨some 14,.mov (.tmp 24),none⟩]))))))))))
  (.seq
   (.reg [] [⟨some 25,.ld true 3 (.tmp 3),none⟩,
    ⟨none,.st 3 (.tmp 2) (.tmp 25),none⟩])
   .ret))))⟩
def jr71:AFun:=⟨26,6,[.cell 2 3 true],
 (.seq
 (.reg [0,1] [⟨some 1,.cbx 0 3 (.tmp 0),none⟩,
  ⟨some 2,.alloc 1 [(.d (.bool false)),(.d (.bool false)),(.nils 2)],none⟩])
 (.seq
  (.reg [2] [⟨some 6,.fad 0 (.tmp 1),none⟩,
   ⟨some 7,.ld false 1 (.tmp 6),none⟩,
   ⟨some 8,.fad 1 (.tmp 1),none⟩,
   ⟨some 9,.ld false 1 (.tmp 8),none⟩,
   ⟨some 10,.build [(.d (.bool false)),(.d (.bool false)),(.nils 2)] [(0,1,(.tmp 7)),(1,1,(.tmp 9))],none⟩,
   ⟨some 3,.alloc 2 [(.d (.bool false)),(.d (.bool false)),(.nils 2)],none⟩,
   ⟨none,.st 3 (.tmp 3) (.tmp 10),none⟩])
  (.seq
  (.seq
   (.reg [] [⟨some 11,.fad 2 (.tmp 1),none⟩,
    ⟨some 12,.ld false 1 (.tmp 11),none⟩,
    ⟨some 13,.len (.tmp 12),none⟩,
    ⟨some 14,.mov (.cst (.d (.int .i64 0))),none⟩])
   (.post [2,3] [0,1,2,3,4,5]
   (.block 0
    (.keep [2,3,12,13,14] [0,1,2]
    (.loop
     (.post [2,3,12,13,14] [3,4,5]
     (.seq
      (.reg [] [⟨some 15,.cmp .lss (.tmp 14) (.tmp 13),none⟩])
      (.seq
      (.cond (.tmp 15)
       .skip
       (.exit 0))
      (.seq
       (.block 1
       (.seq
        (.reg [3] [⟨some 16,.ixa 2 (.tmp 12) (.tmp 14),none⟩,
         ⟨some 17,.ld true 2 (.tmp 16),none⟩,
         ⟨some 5,.alloc 3 [(.d (.str [])),(.d (.int .i64 0))],none⟩,
         ⟨none,.st 2 (.tmp 5) (.tmp 17),none⟩])
        (.reg [4,5] [⟨some 18,.fad 2 (.tmp 3),none⟩,
         ⟨some 19,.ld false 1 (.tmp 18),none⟩,
         ⟨some 20,.ld true 2 (.tmp 5),none⟩,
         ⟨some 21,.bsl 4 194 2 1 [(.agg [(.str []),(.int .i64 0)])] [(0,(.tmp 20))],none⟩,
         ⟨some 22,.app 5 194 2 24 (.tmp 19) (.tmp 21),none⟩,
         ⟨some 23,.fad 2 (.tmp 3),none⟩,
         ⟨none,.st 1 (.tmp 23) (.tmp 22),none⟩])))
       (.reg [] [⟨some 24,.arith .add .i64 (.tmp 14) (.cst (.d (.int .i64 1))),none⟩,
        ⟨some 14,.mov (.tmp 24),none⟩]))))))))))
  (.seq
   (.reg [] [⟨some 25,.ld true 3 (.tmp 3),none⟩,
    ⟨none,.st 3 (.tmp 2) (.tmp 25),none⟩])
   .ret))))⟩
def jr125:AFun:=⟨45,2,[.tmp 4],
 (.seq
 (.reg [0,1] [⟨some 2,.cbx 0 3 (.tmp 0),none⟩,
  ⟨some 3,.cbx 1 3 (.tmp 1),none⟩,
  ⟨some 4,.mov (.cst (.d (.bool false))),none⟩])
 (.seq
  (.seq
  (.reg [] [⟨some 6,.fad 0 (.tmp 2),none⟩,
   ⟨some 7,.ld false 1 (.tmp 6),none⟩,
   ⟨some 8,.fad 0 (.tmp 3),none⟩,
   ⟨some 9,.ld false 1 (.tmp 8),none⟩,
   ⟨some 10,.beq true (.tmp 7) (.tmp 9),none⟩,
   ⟨some 11,.mov (.tmp 10),none⟩,
   ⟨some 12,.fad 1 (.tmp 2),some (11,false)⟩,
   ⟨some 13,.ld false 1 (.tmp 12),some (11,false)⟩,
   ⟨some 14,.fad 1 (.tmp 3),some (11,false)⟩,
   ⟨some 15,.ld false 1 (.tmp 14),some (11,false)⟩,
   ⟨some 16,.beq true (.tmp 13) (.tmp 15),some (11,false)⟩,
   ⟨some 17,.pick (.tmp 11) (.cst (.d (.bool true))) (.tmp 16),none⟩,
   ⟨some 18,.mov (.tmp 17),none⟩,
   ⟨some 19,.fad 2 (.tmp 2),some (18,false)⟩,
   ⟨some 20,.ld false 1 (.tmp 19),some (18,false)⟩,
   ⟨some 21,.len (.tmp 20),some (18,false)⟩,
   ⟨some 22,.fad 2 (.tmp 3),some (18,false)⟩,
   ⟨some 23,.ld false 1 (.tmp 22),some (18,false)⟩,
   ⟨some 24,.len (.tmp 23),some (18,false)⟩,
   ⟨some 25,.cmp .neq (.tmp 21) (.tmp 24),some (18,false)⟩,
   ⟨some 26,.pick (.tmp 18) (.cst (.d (.bool true))) (.tmp 25),none⟩])
  (.cond (.tmp 26)
   (.seq
   (.reg [] [⟨some 4,.mov (.cst (.d (.bool false))),none⟩])
   .ret)
   .skip))
  (.seq
  (.seq
   (.reg [] [⟨some 5,.mov (.cst (.d (.int .i64 0))),none⟩])
   (.post [] [0,1]
   (.block 0
    (.keep [2,3,5] [0,1]
    (.loop
     (.post [2,3,5] []
     (.seq
      (.seq
      (.reg [] [⟨some 27,.mov (.tmp 5),none⟩,
       ⟨some 28,.fad 2 (.tmp 2),none⟩,
       ⟨some 29,.ld false 1 (.tmp 28),none⟩,
       ⟨some 30,.len (.tmp 29),none⟩,
       ⟨some 31,.cmp .lss (.tmp 27) (.tmp 30),none⟩])
      (.cond (.tmp 31)
       .skip
       (.exit 0)))
      (.seq
      (.block 1
       (.seq
       (.regd [] [⟨some 34,.fad 2 (.tmp 2),none⟩,
        ⟨some 35,.ld false 1 (.tmp 34),none⟩,
        ⟨some 36,.mov (.tmp 5),none⟩,
        ⟨some 37,.ixa 2 (.tmp 35) (.tmp 36),none⟩,
        ⟨some 38,.ld true 2 (.tmp 37),none⟩,
        ⟨some 39,.fad 2 (.tmp 3),none⟩,
        ⟨some 40,.ld false 1 (.tmp 39),none⟩,
        ⟨some 41,.mov (.tmp 5),none⟩,
        ⟨some 42,.ixa 2 (.tmp 40) (.tmp 41),none⟩,
        ⟨some 43,.ld true 2 (.tmp 42),none⟩,
        ⟨some 44,.aeq true [2,0] (.tmp 38) (.tmp 43),none⟩] [(0,2),(1,2),(0,5),(1,5),(2,5),(3,5),(4,5),(0,6),(1,6),(2,6),(3,6),(4,6),(0,7),(1,7),(2,7),(3,7),(4,7),(5,7),(6,7),(0,8),(1,8),(2,8),(3,8),(4,8),(0,9),(1,9),(2,9),(3,9),(4,9)])
       (.cond (.tmp 44)
        (.seq
        (.reg [] [⟨some 4,.mov (.cst (.d (.bool false))),none⟩])
        .ret)
        .skip)))
      (.reg [] [⟨some 32,.mov (.tmp 5),none⟩,
       ⟨some 33,.arith .add .i64 (.tmp 32) (.cst (.d (.int .i64 1))),none⟩,
       ⟨some 5,.mov (.tmp 33),none⟩])))))))))
  (.seq
   (.reg [] [⟨some 4,.mov (.cst (.d (.bool true))),none⟩])
   .ret))))⟩
def jr65:AFun:=⟨21,2,[.tmp 8],
 (.seq
 (.reg [0,1] [⟨some 4,.cbx 0 3 (.tmp 0),none⟩,
  ⟨some 7,.box 1 3 (.tmp 3),none⟩,
  ⟨some 8,.mov (.cst (.d (.bool false))),none⟩])
 (.seq
  (.seq
  (.reg [] [⟨some 9,.mov (.tmp 2),none⟩,
   ⟨some 10,.cmp .neq (.tmp 9) (.cst (.d (.int .i64 0))),none⟩])
  (.cond (.tmp 10)
   (.reg [] [⟨some 11,.build [(.d (.bool false)),(.d (.bool false)),(.nils 2)] [],none⟩,
    ⟨none,.st 3 (.tmp 7) (.tmp 11),none⟩])
   .skip))
  (.seq
  (.regd [] [⟨some 12,.ld true 3 (.tmp 4),none⟩,
   ⟨some 13,.call 71 [(.tmp 12)],none⟩,
   ⟨some 14,.ld true 3 (.tmp 7),none⟩,
   ⟨some 15,.call 125 [(.tmp 13),(.tmp 14)],none⟩,
   ⟨some 16,.mov (.tmp 15),none⟩,
   ⟨some 17,.mov (.tmp 1),some (16,true)⟩,
   ⟨some 18,.mov (.tmp 2),some (16,true)⟩,
   ⟨some 19,.cmp .eql (.tmp 17) (.tmp 18),some (16,true)⟩,
   ⟨some 20,.pick (.tmp 16) (.tmp 19) (.cst (.d (.bool false))),none⟩,
   ⟨some 8,.mov (.tmp 20),none⟩] [(0,2),(1,2),(5,6)])
  .ret)))⟩
def jr72:AFun:=⟨21,3,[.cell 2 3 true,.tmp 3],
 (.seq
 (.reg [0,1] [⟨some 1,.cbx 0 3 (.tmp 0),none⟩,
  ⟨some 2,.alloc 1 [(.d (.bool false)),(.d (.bool false)),(.nils 2)],none⟩,
  ⟨some 3,.mov (.cst (.d (.int .i64 0))),none⟩])
 (.seq
  (.seq
  (.regd [2] [⟨some 5,.ld true 3 (.tmp 1),none⟩,
   ⟨some 6,.call 80 [(.tmp 5)],none⟩,
   ⟨some 7,.fad 0 (.tmp 1),none⟩,
   ⟨some 8,.ld false 1 (.tmp 7),none⟩,
   ⟨some 9,.call 92 [(.tmp 8),(.cst (.d (.int .i64 22)))],none⟩,
   ⟨some 10,.fad 1 (.tmp 1),none⟩,
   ⟨some 11,.ld false 1 (.tmp 10),none⟩,
   ⟨some 12,.not (.tmp 11),none⟩,
   ⟨some 13,.call 92 [(.tmp 12),(.cst (.d (.int .i64 29)))],none⟩,
   ⟨some 14,.bsl 2 30 1 3 [(.int .i64 0),(.int .i64 0),(.int .i64 0)] [(0,(.tmp 6)),(1,(.tmp 9)),(2,(.tmp 13))],none⟩,
   ⟨some 15,.call 90 [(.tmp 14)],none⟩,
   ⟨some 4,.mov (.tmp 15),none⟩] [(0,2),(1,2),(0,3),(1,3),(0,5),(1,5),(2,5),(3,5),(4,5),(0,6),(1,6),(2,6),(3,6),(4,6),(0,7),(1,7),(2,7),(3,7),(4,7)])
  (.seq
   (.reg [] [⟨some 16,.mov (.tmp 4),none⟩,
    ⟨some 17,.cmp .neq (.tmp 16) (.cst (.d (.int .i64 0))),none⟩])
   (.cond (.tmp 17)
   (.seq
    (.reg [] [⟨some 18,.build [(.d (.bool false)),(.d (.bool false)),(.nils 2)] [],none⟩,
     ⟨some 19,.mov (.tmp 4),none⟩,
     ⟨none,.st 3 (.tmp 2) (.tmp 18),none⟩,
     ⟨some 3,.mov (.tmp 19),none⟩])
    .ret)
   .skip)))
  (.seq
  (.reg [] [⟨some 20,.build [(.d (.bool false)),(.d (.bool false)),(.nils 2)] [(0,1,(.cst (.d (.bool true))))],none⟩,
   ⟨none,.st 3 (.tmp 2) (.tmp 20),none⟩,
   ⟨some 3,.mov (.cst (.d (.int .i64 0))),none⟩])
  .ret)))⟩
def jr73:AFun:=⟨20,3,[.cell 2 3 true,.tmp 3],
 (.seq
 (.reg [0,1] [⟨some 1,.cbx 0 3 (.tmp 0),none⟩,
  ⟨some 2,.alloc 1 [(.d (.bool false)),(.d (.bool false)),(.nils 2)],none⟩,
  ⟨some 3,.mov (.cst (.d (.int .i64 0))),none⟩])
 (.seq
  (.seq
  (.regd [2] [⟨some 5,.ld true 3 (.tmp 1),none⟩,
   ⟨some 6,.call 80 [(.tmp 5)],none⟩,
   ⟨some 7,.fad 0 (.tmp 1),none⟩,
   ⟨some 8,.ld false 1 (.tmp 7),none⟩,
   ⟨some 9,.call 92 [(.tmp 8),(.cst (.d (.int .i64 22)))],none⟩,
   ⟨some 10,.fad 1 (.tmp 1),none⟩,
   ⟨some 11,.ld false 1 (.tmp 10),none⟩,
   ⟨some 12,.call 92 [(.tmp 11),(.cst (.d (.int .i64 9)))],none⟩,
   ⟨some 13,.bsl 2 30 1 3 [(.int .i64 0),(.int .i64 0),(.int .i64 0)] [(0,(.tmp 6)),(1,(.tmp 9)),(2,(.tmp 12))],none⟩,
   ⟨some 14,.call 90 [(.tmp 13)],none⟩,
   ⟨some 4,.mov (.tmp 14),none⟩] [(0,2),(1,2),(0,3),(1,3),(0,5),(1,5),(2,5),(3,5),(4,5),(0,6),(1,6),(2,6),(3,6),(4,6)])
  (.seq
   (.reg [] [⟨some 15,.mov (.tmp 4),none⟩,
    ⟨some 16,.cmp .neq (.tmp 15) (.cst (.d (.int .i64 0))),none⟩])
   (.cond (.tmp 16)
   (.seq
    (.reg [] [⟨some 17,.build [(.d (.bool false)),(.d (.bool false)),(.nils 2)] [],none⟩,
     ⟨some 18,.mov (.tmp 4),none⟩,
     ⟨none,.st 3 (.tmp 2) (.tmp 17),none⟩,
     ⟨some 3,.mov (.tmp 18),none⟩])
    .ret)
   .skip)))
  (.seq
  (.reg [] [⟨some 19,.build [(.d (.bool false)),(.d (.bool false)),(.nils 2)] [(1,1,(.cst (.d (.bool true))))],none⟩,
   ⟨none,.st 3 (.tmp 2) (.tmp 19),none⟩,
   ⟨some 3,.mov (.cst (.d (.int .i64 0))),none⟩])
  .ret)))⟩
def lst (s:Sw):Int:=lastT s.os s.os.length
theorem c127 (s:Sw) (hl:s.os.length≤1048576):CallDet Tryz.prog 127 [.d (.agg [.bool s.on,.bool s.rd,.slice 2 (ods s.os)])] [.int .i64 (lst s)]:=by
 have hlen:=ods_len s.os
 unfold lst
 cases hc:s.os with
 | nil =>
  refine call_of_vc (x:=jr127) (by kernel_rfl) rfl ?_
  refine sd ?_
  exact rfl
 | cons y r =>
  rw [← hc]
  refine Exists.elim (get_lt s.os (k:=r.length) (by rw [hc]; simp)) fun p hp=>?_
  have hp1:=ods_at hp
  have hll:s.os.length=r.length+1:=by rw [hc]; rfl
  have hp2:(ods s.os)[((((ods s.os).length:Nat):Int) - 1).toNat]?=some (.agg [.str p.o,.int .i64 p.t]):=by
   rw [show ((((ods s.os).length:Nat):Int) - 1).toNat=((r.length:Nat):Int).toNat by omega]; exact hp1
  rw [hll,lastT_at hp]
  refine call_of_vc (x:=jr127) (by kernel_rfl) rfl ?_
  refine sd ?_
  refine b_eq (fun t1=>?_) (fun t1=>?_)
  (exfalso; omega)
  refine ar_sub ?_ ?_
  refine an ?_ ?_
  (show (-9223372036854775808:Int)≤(↑(List.length (ods (Sw.os s))):Int) - (1:Int); omega)
  (show (↑(List.length (ods (Sw.os s))):Int) - (1:Int)≤(9223372036854775807:Int); omega)
  refine ix_at hp2 ?_ ?_
  (show (0:Int)≤(↑(List.length (ods (Sw.os s))):Int) - (1:Int); omega)
  exact rfl
theorem c124 (s:Sw) (t:Int) (hl:s.os.length≤1048576) (h0:0≤t):CallDet Tryz.prog 124 [.d (.agg [.bool s.on,.bool s.rd,.slice 2 (ods s.os)]),.d (.int .i64 t)] [.bool (decide (t < lst s))]:=by
 have hlen:=ods_len s.os
 unfold lst
 cases hc:s.os with
 | nil =>
  rw [decide_eq_false (show ¬ t < lastT [] ([]:List Od).length by show ¬ t < 0; omega)]
  refine call_of_vc (x:=jr124) (by kernel_rfl) rfl ?_
  refine sd ?_
  refine sd ?_
  exact rfl
 | cons y r =>
  rw [← hc]
  refine Exists.elim (get_lt s.os (k:=r.length) (by rw [hc]; simp)) fun p hp=>?_
  have hp1:=ods_at hp
  have hll:s.os.length=r.length+1:=by rw [hc]; rfl
  have hp2:(ods s.os)[((((ods s.os).length:Nat):Int) - 1).toNat]?=some (.agg [.str p.o,.int .i64 p.t]):=by
   rw [show ((((ods s.os).length:Nat):Int) - 1).toNat=((r.length:Nat):Int).toNat by omega]; exact hp1
  rw [hll,lastT_at hp]
  refine call_of_vc (x:=jr124) (by kernel_rfl) rfl ?_
  refine sd ?_
  refine b_lt (fun t1=>?_) (fun t1=>?_)
  refine ar_sub ?_ ?_
  refine an ?_ ?_
  (show (-9223372036854775808:Int)≤(↑(List.length (ods (Sw.os s))):Int) - (1:Int); omega)
  (show (↑(List.length (ods (Sw.os s))):Int) - (1:Int)≤(9223372036854775807:Int); omega)
  refine ix_at hp2 ?_ ?_
  (show (0:Int)≤(↑(List.length (ods (Sw.os s))):Int) - (1:Int); omega)
  refine sd ?_
  exact rfl
  (exfalso; omega)
def nxo (l:List Od):AVal:=match l with | []=>.nils 2 | _::_=>.sl 5 (ods l).length
def nxw (t:Nat) (l:List Od):AObj:=match l with | []=>.none | _::_=>.row t 2 (ods l) false
theorem nxo_snoc (l:List Od) (o:Od):nxo (l++[o])=.sl 5 (ods (l++[o])).length:=by cases l <;> rfl
theorem nxw_snoc (t:Nat) (l:List Od) (o:Od):nxw t (l++[o])=.row t 2 (ods (l++[o])) false:=by cases l <;> rfl
theorem c58 (s:Sw) (hl:s.os.length≤1048576):CallDet Tryz.prog 58 [.d (.agg [.bool s.on,.bool s.rd,.slice 2 (ods s.os)])] [.agg [.bool s.on,.bool s.rd,.slice 2 (ods s.os)]]:=by
 have hlen:=ods_len s.os
 refine call_of_vc (x:=jr58) (by kernel_rfl) rfl ?_
 rotate_left
 refine loop_st (fun k:Nat=>⟨[(2,.ptr 1 0),(3,.ptr 2 0),(12,.d (.slice 2 (ods s.os))),(13,.d (.int .i64 (((ods s.os).length:Nat):Int))),(14,.d (.int .i64 ((k:Nat))))],[.none,.box [.d (.bool false),.d (.bool false),.nils 2],.box [.d (.bool s.on),.d (.bool s.rd),nxo (s.os.take k)],.none,.none,nxw 156 (s.os.take k)]⟩) (fun k=>k≤s.os.length) (fun k=>s.os.length - k) 0 rfl (Nat.zero_le _) ?_
 intro k hk
 have hk:k≤s.os.length:=hk
 have hlk:=ods_len (s.os.take k)
 rw [List.length_take] at hlk
 dsimp only
 by_cases hkn:k < s.os.length
 ·refine Exists.elim (get_lt s.os hkn) fun o hx=>?_
  have hx1:=ods_at hx
  have hst:nxo (s.os.take (k+1))=.sl 5 (ods (s.os.take k)++[Data.agg [.str o.o,.int .i64 o.t]]).length∧nxw 156 (s.os.take (k+1))=.row 156 2 (ods (s.os.take k)++[Data.agg [.str o.o,.int .i64 o.t]]) false:=by
   rw [take_one hx,nxo_snoc,nxw_snoc,ods_app]; exact ⟨rfl,rfl⟩
  have fin:∃ a':Nat,(a'≤s.os.length∧s.os.length - a' < s.os.length - k)∧(⟨[(2,.ptr 1 0),(3,.ptr 2 0),(12,.d (.slice 2 (ods s.os))),(13,.d (.int .i64 (((ods s.os).length:Nat):Int))),(14,.d (.int .i64 ((k:Int)+1)))],[.none,.box [.d (.bool false),.d (.bool false),.nils 2],.box [.d (.bool s.on),.d (.bool s.rd),.sl 5 (ods (s.os.take k)++[Data.agg [.str o.o,.int .i64 o.t]]).length],.none,.none,.row 156 2 (ods (s.os.take k)++[Data.agg [.str o.o,.int .i64 o.t]]) false]⟩:St)=⟨[(2,.ptr 1 0),(3,.ptr 2 0),(12,.d (.slice 2 (ods s.os))),(13,.d (.int .i64 (((ods s.os).length:Nat):Int))),(14,.d (.int .i64 ((a':Nat))))],[.none,.box [.d (.bool false),.d (.bool false),.nils 2],.box [.d (.bool s.on),.d (.bool s.rd),nxo (s.os.take a')],.none,.none,nxw 156 (s.os.take a')]⟩:=⟨k+1,⟨by omega,by omega⟩,by rw [hst.1,hst.2]; rfl⟩
  cases hc:s.os.take k with
  | nil =>
   rw [hc] at fin hlk
   refine sd ?_
   refine b_lt (fun t1=>?_) (fun t1=>?_)
   refine ix_at hx1 ?_ ?_
   (show (0:Int)≤(↑k:Int); omega)
   refine sd ?_
   refine sd ?_
   refine sd ?_
   refine an ?_ ?_
   refine an ?_ ?_
   (show (1:Nat) * (24:Nat)≤(2:Nat) ^ (47:Nat); omega)
   (show (1:Nat)≤(2:Nat) ^ (47:Nat); omega)
   refine sd ?_
   refine ar_add ?_ ?_
   refine an ?_ ?_
   (show (-9223372036854775808:Int)≤(↑k:Int)+(1:Int); omega)
   (show (↑k:Int)+(1:Int)≤(9223372036854775807:Int); omega)
   rotate_left
   (exfalso; omega)
   all_goals exact fin
  | cons y r =>
   rw [hc] at fin hlk
   have hlm:(List.map od r).length+1=min k s.os.length:=hlk
   refine sd ?_
   refine b_lt (fun t1=>?_) (fun t1=>?_)
   refine ix_at hx1 ?_ ?_
   (show (0:Int)≤(↑k:Int); omega)
   refine sd ?_
   refine sd ?_
   refine sd ?_
   refine an ?_ ?_
   refine an ?_ ?_
   exact rfl
   refine an ?_ ?_
   exact rfl
   refine an ?_ ?_
   exact rfl
   refine an ?_ ?_
   (show (List.length (List.map od r)+(1:Nat)+(1:Nat)) * (24:Nat)≤(2:Nat) ^ (47:Nat); omega)
   (show List.length (List.map od r)+(1:Nat)+(1:Nat)≤(2:Nat) ^ (47:Nat); omega)
   refine sd ?_
   refine ar_add ?_ ?_
   refine an ?_ ?_
   (show (-9223372036854775808:Int)≤(↑k:Int)+(1:Int); omega)
   (show (↑k:Int)+(1:Int)≤(9223372036854775807:Int); omega)
   rotate_left
   (exfalso; omega)
   all_goals exact fin
 ·have e:s.os.take k=s.os:=List.take_of_length_le (by omega)
  rw [e]
  cases hc:s.os with
  | nil =>
   rw [hc] at hkn hlen
   refine sd ?_
   exact rfl
  | cons y r =>
   rw [hc] at hkn hlen
   have hlm:(List.map od r).length+1=(y::r).length:=hlen
   refine sd ?_
   refine b_lt (fun t1=>?_) (fun t1=>?_)
   replace t1:(↑k:Int) < (↑(List.length (List.map od r)+(1:Nat)):Int):=t1
   (exfalso; omega)
   replace t1:¬(↑k:Int) < (↑(List.length (List.map od r)+(1:Nat)):Int):=t1
   refine sd ?_
   exact rfl
theorem c71 (s:Sw) (hl:s.os.length≤1048576):CallDet Tryz.prog 71 [.d (.agg [.bool s.on,.bool s.rd,.slice 2 (ods s.os)])] [.agg [.bool s.on,.bool s.rd,.slice 2 (ods s.os)]]:=by
 have hlen:=ods_len s.os
 refine call_of_vc (x:=jr71) (by kernel_rfl) rfl ?_
 rotate_left
 refine loop_st (fun k:Nat=>⟨[(2,.ptr 1 0),(3,.ptr 2 0),(12,.d (.slice 2 (ods s.os))),(13,.d (.int .i64 (((ods s.os).length:Nat):Int))),(14,.d (.int .i64 ((k:Nat))))],[.none,.box [.d (.bool false),.d (.bool false),.nils 2],.box [.d (.bool s.on),.d (.bool s.rd),nxo (s.os.take k)],.none,.none,nxw 194 (s.os.take k)]⟩) (fun k=>k≤s.os.length) (fun k=>s.os.length - k) 0 rfl (Nat.zero_le _) ?_
 intro k hk
 have hk:k≤s.os.length:=hk
 have hlk:=ods_len (s.os.take k)
 rw [List.length_take] at hlk
 dsimp only
 by_cases hkn:k < s.os.length
 ·refine Exists.elim (get_lt s.os hkn) fun o hx=>?_
  have hx1:=ods_at hx
  have hst:nxo (s.os.take (k+1))=.sl 5 (ods (s.os.take k)++[Data.agg [.str o.o,.int .i64 o.t]]).length∧nxw 194 (s.os.take (k+1))=.row 194 2 (ods (s.os.take k)++[Data.agg [.str o.o,.int .i64 o.t]]) false:=by
   rw [take_one hx,nxo_snoc,nxw_snoc,ods_app]; exact ⟨rfl,rfl⟩
  have fin:∃ a':Nat,(a'≤s.os.length∧s.os.length - a' < s.os.length - k)∧(⟨[(2,.ptr 1 0),(3,.ptr 2 0),(12,.d (.slice 2 (ods s.os))),(13,.d (.int .i64 (((ods s.os).length:Nat):Int))),(14,.d (.int .i64 ((k:Int)+1)))],[.none,.box [.d (.bool false),.d (.bool false),.nils 2],.box [.d (.bool s.on),.d (.bool s.rd),.sl 5 (ods (s.os.take k)++[Data.agg [.str o.o,.int .i64 o.t]]).length],.none,.none,.row 194 2 (ods (s.os.take k)++[Data.agg [.str o.o,.int .i64 o.t]]) false]⟩:St)=⟨[(2,.ptr 1 0),(3,.ptr 2 0),(12,.d (.slice 2 (ods s.os))),(13,.d (.int .i64 (((ods s.os).length:Nat):Int))),(14,.d (.int .i64 ((a':Nat))))],[.none,.box [.d (.bool false),.d (.bool false),.nils 2],.box [.d (.bool s.on),.d (.bool s.rd),nxo (s.os.take a')],.none,.none,nxw 194 (s.os.take a')]⟩:=⟨k+1,⟨by omega,by omega⟩,by rw [hst.1,hst.2]; rfl⟩
  cases hc:s.os.take k with
  | nil =>
   rw [hc] at fin hlk
   refine sd ?_
   refine b_lt (fun t1=>?_) (fun t1=>?_)
   refine ix_at hx1 ?_ ?_
   (show (0:Int)≤(↑k:Int); omega)
   refine sd ?_
   refine sd ?_
   refine sd ?_
   refine an ?_ ?_
   refine an ?_ ?_
   (show (1:Nat) * (24:Nat)≤(2:Nat) ^ (47:Nat); omega)
   (show (1:Nat)≤(2:Nat) ^ (47:Nat); omega)
   refine sd ?_
   refine ar_add ?_ ?_
   refine an ?_ ?_
   (show (-9223372036854775808:Int)≤(↑k:Int)+(1:Int); omega)
   (show (↑k:Int)+(1:Int)≤(9223372036854775807:Int); omega)
   rotate_left
   (exfalso; omega)
   all_goals exact fin
  | cons y r =>
   rw [hc] at fin hlk
   have hlm:(List.map od r).length+1=min k s.os.length:=hlk
   refine sd ?_
   refine b_lt (fun t1=>?_) (fun t1=>?_)
   refine ix_at hx1 ?_ ?_
   (show (0:Int)≤(↑k:Int); omega)
   refine sd ?_
   refine sd ?_
   refine sd ?_
   refine an ?_ ?_
   refine an ?_ ?_
   exact rfl
   refine an ?_ ?_
   exact rfl
   refine an ?_ ?_
   exact rfl
   refine an ?_ ?_
   (show (List.length (List.map od r)+(1:Nat)+(1:Nat)) * (24:Nat)≤(2:Nat) ^ (47:Nat); omega)
   (show List.length (List.map od r)+(1:Nat)+(1:Nat)≤(2:Nat) ^ (47:Nat); omega)
   refine sd ?_
   refine ar_add ?_ ?_
   refine an ?_ ?_
   (show (-9223372036854775808:Int)≤(↑k:Int)+(1:Int); omega)
   (show (↑k:Int)+(1:Int)≤(9223372036854775807:Int); omega)
   rotate_left
   (exfalso; omega)
   all_goals exact fin
 ·have e:s.os.take k=s.os:=List.take_of_length_le (by omega)
  rw [e]
  cases hc:s.os with
  | nil =>
   rw [hc] at hkn hlen
   refine sd ?_
   exact rfl
  | cons y r =>
   rw [hc] at hkn hlen
   have hlm:(List.map od r).length+1=(y::r).length:=hlen
   refine sd ?_
   refine b_lt (fun t1=>?_) (fun t1=>?_)
   replace t1:(↑k:Int) < (↑(List.length (List.map od r)+(1:Nat)):Int):=t1
   (exfalso; omega)
   replace t1:¬(↑k:Int) < (↑(List.length (List.map od r)+(1:Nat)):Int):=t1
   refine sd ?_
   exact rfl
theorem c125 (s:Sw) (hl:s.os.length≤1048576):CallDet Tryz.prog 125 [.d (.agg [.bool s.on,.bool s.rd,.slice 2 (ods s.os)]),.d (.agg [.bool s.on,.bool s.rd,.slice 2 (ods s.os)])] [.bool true]:=by
 have hlen:=ods_len s.os
 have eb:∀ b:Bool,(b != b)=false:=fun b=>by cases b <;> rfl
 have h1:=eb s.on
 have h2:=eb s.rd
 refine call_of_vc (x:=jr125) (by kernel_rfl) rfl ?_
 refine b_f h1 ?_
 refine b_f h2 ?_
 refine sd ?_
 refine b_ne (fun t1=>?_) (fun t1=>?_)
 (exfalso; omega)
 rotate_left
 refine loop_st (fun k:Nat=>⟨[(2,.ptr 0 0),(3,.ptr 1 0),(5,.d (.int .i64 ((k:Nat))))],[.cbox [.bool s.on,.bool s.rd,.slice 2 (ods s.os)],.cbox [.bool s.on,.bool s.rd,.slice 2 (ods s.os)]]⟩) (fun k=>k≤s.os.length) (fun k=>s.os.length - k) 0 rfl (Nat.zero_le _) ?_
 intro k hk
 have hk:k≤s.os.length:=hk
 dsimp only
 by_cases hkn:k < s.os.length
 ·refine Exists.elim (get_lt s.os hkn) fun o hx=>?_
  have hx1:=ods_at hx
  have fin:∃ a':Nat,(a'≤s.os.length∧s.os.length - a' < s.os.length - k)∧(⟨[(2,.ptr 0 0),(3,.ptr 1 0),(5,.d (.int .i64 ((k:Int)+1)))],[.cbox [.bool s.on,.bool s.rd,.slice 2 (ods s.os)],.cbox [.bool s.on,.bool s.rd,.slice 2 (ods s.os)]]⟩:St)=⟨[(2,.ptr 0 0),(3,.ptr 1 0),(5,.d (.int .i64 ((a':Nat))))],[.cbox [.bool s.on,.bool s.rd,.slice 2 (ods s.os)],.cbox [.bool s.on,.bool s.rd,.slice 2 (ods s.os)]]⟩:=⟨k+1,⟨by omega,by omega⟩,rfl⟩
  refine sd ?_
  refine b_lt (fun t2=>?_) (fun t2=>?_)
  refine ix_at hx1 ?_ ?_
  (show (0:Int)≤(↑k:Int); omega)
  refine ix_at hx1 ?_ ?_
  (show (0:Int)≤(↑k:Int); omega)
  refine ca (Exists.intro _ (And.intro rfl rfl)) ?_
  refine b_intro (fun t3=>?_) (fun t3=>?_)
  replace t3:(!(Od.o o==Od.o o&&(Od.t o==Od.t o&&true)))=true:=t3
  rotate_left
  replace t3:(!(Od.o o==Od.o o&&(Od.t o==Od.t o&&true)))=false:=t3
  refine ar_add ?_ ?_
  refine an ?_ ?_
  (show (-9223372036854775808:Int)≤(↑k:Int)+(1:Int); omega)
  (show (↑k:Int)+(1:Int)≤(9223372036854775807:Int); omega)
  rotate_left
  (exfalso; omega)
  all_goals first | exact fin | (simp at t1; done) | (simp at t2; done) | (simp at t3; done)
 ·refine sd ?_
  refine b_lt (fun t2=>?_) (fun t2=>?_)
  (exfalso; omega)
  exact rfl
theorem c65s (s:Sw) (hl:s.os.length≤1048576):CallDet Tryz.prog 65 [.d (.agg [.bool s.on,.bool s.rd,.slice 2 (ods s.os)]),.d (.int .i64 0),.d (.int .i64 0),.d (.agg [.bool s.on,.bool s.rd,.slice 2 (ods s.os)])] [.bool true]:=by
 have c71_:=c71 s hl
 have c125_:=c125 s hl
 refine call_of_vc (x:=jr65) (by kernel_rfl) rfl ?_
 refine sd ?_
 refine ca c71_ ?_
 refine ca c125_ ?_
 refine sd ?_
 exact rfl
theorem c65z (e:Int) (he:¬ e=0) (a b:Bool) (u:List Data):CallDet Tryz.prog 65 [.d (.agg [.bool false,.bool false,.slice 2 []]),.d (.int .i64 e),.d (.int .i64 e),.d (.agg [.bool a,.bool b,.slice 2 u])] [.bool true]:=by
 have c71_:=c71 ⟨false,false,[]⟩ (by simp)
 have c125_:=c125 ⟨false,false,[]⟩ (by simp)
 refine call_of_vc (x:=jr65) (by kernel_rfl) rfl ?_
 refine sd ?_
 refine b_ne (fun t1=>?_) (fun t1=>?_)
 refine ca c71_ ?_
 refine ca c125_ ?_
 refine sd ?_
 rotate_left
 (exfalso; omega)
 exact resB (by simp [cmpF])
end Vc
