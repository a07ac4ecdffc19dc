import Derived.Test.YtkghjijnlnnfkaaGreatDoorG17
set_option linter.unusedSectionVars false
set_option linter.unusedVariables false
set_option linter.unusedSimpArgs false
set_option maxRecDepth 10000
set_option maxHeartbeats 4000000
namespace Vc
open Go Go.Proofs
def jr127:AFun:=⟨16,1,[.tmp 2],
 (.seq
 (.reg [0] [⟨some 1,.cbx 0 3 (.tmp 0),none⟩,
  ⟨some 2,.mov (.cst (.d (.int .i64 0))),none⟩])
 (.seq
  (.seq
  (.reg [] [⟨some 3,.fad 2 (.tmp 1),none⟩,
   ⟨some 4,.ld false 1 (.tmp 3),none⟩,
   ⟨some 5,.len (.tmp 4),none⟩,
   ⟨some 6,.cmp .eql (.tmp 5) (.cst (.d (.int .i64 0))),none⟩])
  (.cond (.tmp 6)
   (.seq
   (.reg [] [⟨some 2,.mov (.cst (.d (.int .i64 0))),none⟩])
   .ret)
   .skip))
  (.seq
  (.reg [] [⟨some 7,.fad 2 (.tmp 1),none⟩,
   ⟨some 8,.ld false 1 (.tmp 7),none⟩,
   ⟨some 9,.fad 2 (.tmp 1),none⟩,
   ⟨some 10,.ld false 1 (.tmp 9),none⟩,
   ⟨some 11,.len (.tmp 10),none⟩,
   ⟨some 12,.arith .sub .i64 (.tmp 11) (.cst (.d (.int .i64 1))),none⟩,
   ⟨some 13,.ixa 2 (.tmp 8) (.tmp 12),none⟩,
   ⟨some 14,.fad 1 (.tmp 13),none⟩,
   ⟨some 15,.ld false 1 (.tmp 14),none⟩,
   ⟨some 2,.mov (.tmp 15),none⟩])
  .ret)))⟩
def jr124:AFun:=⟨22,1,[.tmp 4],
 (.seq
 (.reg [0] [⟨some 2,.cbx 0 3 (.tmp 0),none⟩,
  ⟨some 4,.mov (.cst (.d (.bool false))),none⟩])
 (.seq
  (.reg [] [⟨some 5,.fad 2 (.tmp 2),none⟩,
   ⟨some 6,.ld false 1 (.tmp 5),none⟩,
   ⟨some 7,.len (.tmp 6),none⟩,
   ⟨some 8,.cmp .gtr (.tmp 7) (.cst (.d (.int .i64 0))),none⟩,
   ⟨some 9,.mov (.tmp 8),none⟩,
   ⟨some 10,.mov (.tmp 1),some (9,true)⟩,
   ⟨some 11,.fad 2 (.tmp 2),some (9,true)⟩,
   ⟨some 12,.ld false 1 (.tmp 11),some (9,true)⟩,
   ⟨some 13,.fad 2 (.tmp 2),some (9,true)⟩,
   ⟨some 14,.ld false 1 (.tmp 13),some (9,true)⟩,
   ⟨some 15,.len (.tmp 14),some (9,true)⟩,
   ⟨some 16,.arith .sub .i64 (.tmp 15) (.cst (.d (.int .i64 1))),some (9,true)⟩,
   ⟨some 17,.ixa 2 (.tmp 12) (.tmp 16),some (9,true)⟩,
   ⟨some 18,.fad 1 (.tmp 17),some (9,true)⟩,
   ⟨some 19,.ld false 1 (.tmp 18),some (9,true)⟩,
   ⟨some 20,.cmp .lss (.tmp 10) (.tmp 19),some (9,true)⟩,
   ⟨some 21,.pick (.tmp 9) (.tmp 20) (.cst (.d (.bool false))),none⟩,
   ⟨some 4,.mov (.tmp 21),none⟩])
  .ret))⟩
def jr58:AFun:=⟨26,6,[.cell 2 3 true],
 (.seq
 (.reg [0,1] [⟨some 1,.cbx 0 3 (.tmp 0),none⟩,
  ⟨some 2,.alloc 1 [(.d (.bool false)),(.d (.bool false)),(.nils 2)],none⟩])
 (.seq
  (.reg [2] [⟨some 6,.fad 0 (.tmp 1),none⟩,
   ⟨some 7,.ld false 1 (.tmp 6),none⟩,
   ⟨some 8,.fad 1 (.tmp 1),none⟩,
   ⟨some 9,.ld false 1 (.tmp 8),none⟩,
   ⟨some 10,.build [(.d (.bool false)),(.d (.bool false)),(.nils 2)] [(0,1,(.tmp 7)),(1,1,(.tmp 9))],none⟩,
   ⟨some 3,.alloc 2 [(.d (.bool false)),(.d (.bool false)),(.nils 2)],none⟩,
   ⟨none,.st 3 (.tmp 3) (.tmp 10),none⟩])
  (.seq
  (.seq
   (.reg [] [⟨some 11,.fad 2 (.tmp 1),none⟩,
    ⟨some 12,.ld false 1 (.tmp 11),none⟩,
    ⟨some 13,.len (.tmp 12),none⟩,
    ⟨some 14,.mov (.cst (.d (.int .i64 0))),none⟩])
   (.post [2,3] [0,1,2,3,4,5]
   (.block 0
    (.keep [2,3,12,13,14] [0,1,2]
    (.loop
     (.post [2,3,12,13,14] [3,4,5]
     (.seq
      (.reg [] [⟨some 15,.cmp .lss (.tmp 14) (.tmp 13),none⟩])
      (.seq
      (.cond (.tmp 15)
       .skip
       (.exit 0))
      (.seq
       (.block 1
       (.seq
        (.reg [3] [⟨some 16,.ixa 2 (.tmp 12) (.tmp 14),none⟩,
         ⟨some 17,.ld true 2 (.tmp 16),none⟩,
         ⟨some 5,.alloc 3 [(.d (.str [])),(.d (.int .i64 0))],none⟩,
         ⟨none,.st 2 (.tmp 5) (.tmp 17),none⟩])
        (.reg [4,5] [⟨some 18,.fad 2 (.tmp 3),none⟩,
         ⟨some 19,.ld false 1 (.tmp 18),none⟩,
         ⟨some 20,.ld true 2 (.tmp 5),none⟩,
         ⟨some 21,.bsl 4 156 2 1 [(.agg [(.str []),(.int .i64 0)])] [(0,(.tmp 20))],none⟩,
         ⟨some 22,.app 5 156 2 24 (.tmp 19) (.tmp 21),none⟩,
         ⟨some 23,.fad 2 (.tmp 3),none⟩,
         ⟨none,.st 1 (.tmp 23) (.tmp 22),none⟩])))
       (.reg [] [⟨some 24,.arith .add .i64 (.tmp 14) (.cst (.d (.int .i64 1))),none⟩,
        ⟨some 14,.mov (.tmp 24),none⟩]))))))))))
  (.seq
   (.reg [] [⟨some 25,.ld true 3 (.tmp 3),none⟩,
    ⟨none,.st 3 (.tmp 2) (.tmp 25),none⟩])
   .ret))))⟩
def jr71:AFun:=⟨26,6,[.cell 2 3 true],
 (.seq
 (.reg [0,1] [⟨some 1,.cbx 0 3 (.tmp 0),none⟩,
  ⟨some 2,.alloc 1 [(.d (.bool false)),(.d (.bool false)),(.nils 2)],none⟩])
 (.seq
  (.reg [2] [⟨some 6,.fad 0 (.tmp 1),none⟩,
   ⟨some 7,.ld false 1 (.tmp 6),none⟩,
   ⟨some 8,.fad 1 (.tmp 1),none⟩,
   ⟨some 9,.ld false 1 (.tmp 8),none⟩,
   ⟨some 10,.build [(.d (.bool false)),(.d (.bool false)),(.nils 2)] [(0,1,(.tmp 7)),(1,1,(.tmp 9))],none⟩,
   ⟨some 3,.alloc 2 [(.d (.bool false)),(.d (.bool false)),(.nils 2)],none⟩,
   ⟨none,.st 3 (.tmp 3) (.tmp 10),none⟩])
  (.seq
  (.seq
   (.reg [] [⟨some 11,.fad 2 (.tmp 1),none⟩,
    ⟨some 12,.ld false 1 (.tmp 11),none⟩,
    ⟨some 13,.len (.tmp 12),none⟩,
    ⟨some 14,.mov (.cst (.d (.int .i64 0))),none⟩])
   (.post [2,3] [0,1,2,3,4,5]
   (.block 0
    (.keep [2,3,12,13,14] [0,1,2]
    (.loop
     (.post [2,3,12,13,14] [3,4,5]
     (.seq
      (.reg [] [⟨some 15,.cmp .lss (.tmp 14) (.tmp 13),none⟩])
      (.seq
      (.cond (.tmp 15)
       .skip
       (.exit 0))
      (.seq
       (.block 1
       (.seq
        (.reg [3] [⟨some 16,.ixa 2 (.tmp 12) (.tmp 14),none⟩,
         ⟨some 17,.ld true 2 (.tmp 16),none⟩,
         ⟨some 5,.alloc 3 [(.d (.str [])),(.d (.int .i64 0))],none⟩,
         ⟨none,.st 2 (.tmp 5) (.tmp 17),none⟩])
        (.reg [4,5] [⟨some 18,.fad 2 (.tmp 3),none⟩,
         ⟨some 19,.ld false 1 (.tmp 18),none⟩,
         ⟨some 20,.ld true 2 (.tmp 5),none⟩,
         ⟨some 21,.bsl 4 194 2 1 [(.agg [(.str []),(.int .i64 0)])] [(0,(.tmp 20))],none⟩,
         ⟨some 22,.app 5 194 2 24 (.tmp 19) (.tmp 21),none⟩,
         ⟨some 23,.fad 2 (.tmp 3),none⟩,
         ⟨none,.st 1 (.tmp 23) (.tmp 22),none⟩])))
       (.reg [] [⟨some 24,.arith .add .i64 (.tmp 14) (.cst (.d (.int .i64 1))),none⟩,
        ⟨some 14,.mov (.tmp 24),none⟩]))))))))))
  (.seq
   (.reg [] [⟨some 25,.ld true 3 (.tmp 3),none⟩,
    ⟨none,.st 3 (.tmp 2) (.tmp 25),none⟩])
   .ret))))⟩
def jr129:AFun:=⟨31,3,[.tmp 4],
 (.seq
 (.reg [0] [⟨some 2,.cbx 0 3 (.tmp 0),none⟩,
  ⟨some 4,.mov (.cst (.nils 2)),none⟩])
 (.seq
  (.reg [] [⟨some 5,.mov (.cst (.nils 2)),none⟩])
  (.seq
  (.seq
   (.reg [] [⟨some 6,.mov (.cst (.d (.int .i64 0))),none⟩])
   (.post [5] [0,1,2]
   (.block 0
    (.asrow 2 194 2 5
    (.keep [1,2,5,6] [0]
     (.loop
     (.post [1,2,5,6] [1,2]
      (.seq
      (.seq
       (.reg [] [⟨some 7,.mov (.tmp 6),none⟩,
        ⟨some 8,.fad 2 (.tmp 2),none⟩,
        ⟨some 9,.ld false 1 (.tmp 8),none⟩,
        ⟨some 10,.len (.tmp 9),none⟩,
        ⟨some 11,.cmp .lss (.tmp 7) (.tmp 10),none⟩])
       (.cond (.tmp 11)
       .skip
       (.exit 0)))
      (.seq
       (.block 1
       (.seq
        (.reg [] [⟨some 14,.fad 2 (.tmp 2),none⟩,
         ⟨some 15,.ld false 1 (.tmp 14),none⟩,
         ⟨some 16,.mov (.tmp 6),none⟩,
         ⟨some 17,.ixa 2 (.tmp 15) (.tmp 16),none⟩,
         ⟨some 18,.fad 0 (.tmp 17),none⟩,
         ⟨some 19,.ld false 1 (.tmp 18),none⟩,
         ⟨some 20,.mov (.tmp 1),none⟩,
         ⟨some 21,.seq true (.tmp 19) (.tmp 20),none⟩])
        (.cond (.tmp 21)
        (.reg [1,2] [⟨some 22,.mov (.tmp 5),none⟩,
         ⟨some 23,.fad 2 (.tmp 2),none⟩,
         ⟨some 24,.ld false 1 (.tmp 23),none⟩,
         ⟨some 25,.mov (.tmp 6),none⟩,
         ⟨some 26,.ixa 2 (.tmp 24) (.tmp 25),none⟩,
         ⟨some 27,.ld true 2 (.tmp 26),none⟩,
         ⟨some 28,.bsl 1 194 2 1 [(.agg [(.str []),(.int .i64 0)])] [(0,(.tmp 27))],none⟩,
         ⟨some 29,.app 2 194 2 24 (.tmp 22) (.tmp 28),none⟩,
         ⟨some 5,.mov (.tmp 29),none⟩])
        .skip)))
       (.reg [] [⟨some 12,.mov (.tmp 6),none⟩,
        ⟨some 13,.arith .add .i64 (.tmp 12) (.cst (.d (.int .i64 1))),none⟩,
        ⟨some 6,.mov (.tmp 13),none⟩]))))))))))
  (.seq
   (.reg [] [⟨some 30,.mov (.tmp 5),none⟩,
    ⟨some 4,.mov (.tmp 30),none⟩])
   .ret))))⟩
def jr125:AFun:=⟨45,2,[.tmp 4],
 (.seq
 (.reg [0,1] [⟨some 2,.cbx 0 3 (.tmp 0),none⟩,
  ⟨some 3,.cbx 1 3 (.tmp 1),none⟩,
  ⟨some 4,.mov (.cst (.d (.bool false))),none⟩])
 (.seq
  (.seq
  (.reg [] [⟨some 6,.fad 0 (.tmp 2),none⟩,
   ⟨some 7,.ld false 1 (.tmp 6),none⟩,
   ⟨some 8,.fad 0 (.tmp 3),none⟩,
   ⟨some 9,.ld false 1 (.tmp 8),none⟩,
   ⟨some 10,.beq true (.tmp 7) (.tmp 9),none⟩,
   ⟨some 11,.mov (.tmp 10),none⟩,
   ⟨some 12,.fad 1 (.tmp 2),some (11,false)⟩,
   ⟨some 13,.ld false 1 (.tmp 12),some (11,false)⟩,
   ⟨some 14,.fad 1 (.tmp 3),some (11,false)⟩,
   ⟨some 15,.ld false 1 (.tmp 14),some (11,false)⟩,
   ⟨some 16,.beq true (.tmp 13) (.tmp 15),some (11,false)⟩,
   ⟨some 17,.pick (.tmp 11) (.cst (.d (.bool true))) (.tmp 16),none⟩,
   ⟨some 18,.mov (.tmp 17),none⟩,
   ⟨some 19,.fad 2 (.tmp 2),some (18,false)⟩,
   ⟨some 20,.ld false 1 (.tmp 19),some (18,false)⟩,
   ⟨some 21,.len (.tmp 20),some (18,false)⟩,
   ⟨some 22,.fad 2 (.tmp 3),some (18,false)⟩,
   ⟨some 23,.ld false 1 (.tmp 22),some (18,false)⟩,
   ⟨some 24,.len (.tmp 23),some (18,false)⟩,
   ⟨some 25,.cmp .neq (.tmp 21) (.tmp 24),some (18,false)⟩,
   ⟨some 26,.pick (.tmp 18) (.cst (.d (.bool true))) (.tmp 25),none⟩])
  (.cond (.tmp 26)
   (.seq
   (.reg [] [⟨some 4,.mov (.cst (.d (.bool false))),none⟩])
   .ret)
   .skip))
  (.seq
  (.seq
   (.reg [] [⟨some 5,.mov (.cst (.d (.int .i64 0))),none⟩])
   (.post [] [0,1]
   (.block 0
    (.keep [2,3,5] [0,1]
    (.loop
     (.post [2,3,5] []
     (.seq
      (.seq
      (.reg [] [⟨some 27,.mov (.tmp 5),none⟩,
       ⟨some 28,.fad 2 (.tmp 2),none⟩,
       ⟨some 29,.ld false 1 (.tmp 28),none⟩,
       ⟨some 30,.len (.tmp 29),none⟩,
       ⟨some 31,.cmp .lss (.tmp 27) (.tmp 30),none⟩])
      (.cond (.tmp 31)
       .skip
       (.exit 0)))
      (.seq
      (.block 1
       (.seq
       (.regd [] [⟨some 34,.fad 2 (.tmp 2),none⟩,
        ⟨some 35,.ld false 1 (.tmp 34),none⟩,
        ⟨some 36,.mov (.tmp 5),none⟩,
        ⟨some 37,.ixa 2 (.tmp 35) (.tmp 36),none⟩,
        ⟨some 38,.ld true 2 (.tmp 37),none⟩,
        ⟨some 39,.fad 2 (.tmp 3),none⟩,
        ⟨some 40,.ld false 1 (.tmp 39),none⟩,
        ⟨some 41,.mov (.tmp 5),none⟩,
        ⟨some 42,.ixa 2 (.tmp 40) (.tmp 41),none⟩,
        ⟨some 43,.ld true 2 (.tmp 42),none⟩,
        ⟨some 44,.aeq true [2,0] (.tmp 38) (.tmp 43),none⟩] [(0,2),(1,2),(0,5),(1,5),(2,5),(3,5),(4,5),(0,6),(1,6),(2,6),(3,6),(4,6),(0,7),(1,7),(2,7),(3,7),(4,7),(5,7),(6,7),(0,8),(1,8),(2,8),(3,8),(4,8),(0,9),(1,9),(2,9),(3,9),(4,9)])
       (.cond (.tmp 44)
        (.seq
        (.reg [] [⟨some 4,.mov (.cst (.d (.bool false))),none⟩])
        .ret)
        .skip)))
      (.reg [] [⟨some 32,.mov (.tmp 5),none⟩,
       ⟨some 33,.arith .add .i64 (.tmp 32) (.cst (.d (.int .i64 1))),none⟩,
       ⟨some 5,.mov (.tmp 33),none⟩])))))))))
  (.seq
   (.reg [] [⟨some 4,.mov (.cst (.d (.bool true))),none⟩])
   .ret))))⟩
def jr65:AFun:=⟨21,2,[.tmp 8],
 (.seq
 (.reg [0,1] [⟨some 4,.cbx 0 3 (.tmp 0),none⟩,
  ⟨some 7,.box 1 3 (.tmp 3),none⟩,
  ⟨some 8,.mov (.cst (.d (.bool false))),none⟩])
 (.seq
  (.seq
  (.reg [] [⟨some 9,.mov (.tmp 2),none⟩,
   ⟨some 10,.cmp .neq (.tmp 9) (.cst (.d (.int .i64 0))),none⟩])
  (.cond (.tmp 10)
   (.reg [] [⟨some 11,.build [(.d (.bool false)),(.d (.bool false)),(.nils 2)] [],none⟩,
    ⟨none,.st 3 (.tmp 7) (.tmp 11),none⟩])
   .skip))
  (.seq
  (.regd [] [⟨some 12,.ld true 3 (.tmp 4),none⟩,
   ⟨some 13,.call 71 [(.tmp 12)],none⟩,
   ⟨some 14,.ld true 3 (.tmp 7),none⟩,
   ⟨some 15,.call 125 [(.tmp 13),(.tmp 14)],none⟩,
   ⟨some 16,.mov (.tmp 15),none⟩,
   ⟨some 17,.mov (.tmp 1),some (16,true)⟩,
   ⟨some 18,.mov (.tmp 2),some (16,true)⟩,
   ⟨some 19,.cmp .eql (.tmp 17) (.tmp 18),some (16,true)⟩,
   ⟨some 20,.pick (.tmp 16) (.tmp 19) (.cst (.d (.bool false))),none⟩,
   ⟨some 8,.mov (.tmp 20),none⟩] [(0,2),(1,2),(5,6)])
  .ret)))⟩
def jr72:AFun:=⟨21,3,[.cell 2 3 true,.tmp 3],
 (.seq
 (.reg [0,1] [⟨some 1,.cbx 0 3 (.tmp 0),none⟩,
  ⟨some 2,.alloc 1 [(.d (.bool false)),(.d (.bool false)),(.nils 2)],none⟩,
  ⟨some 3,.mov (.cst (.d (.int .i64 0))),none⟩])
 (.seq
  (.seq
  (.regd [2] [⟨some 5,.ld true 3 (.tmp 1),none⟩,
   ⟨some 6,.call 80 [(.tmp 5)],none⟩,
   ⟨some 7,.fad 0 (.tmp 1),none⟩,
   ⟨some 8,.ld false 1 (.tmp 7),none⟩,
   ⟨some 9,.call 92 [(.tmp 8),(.cst (.d (.int .i64 22)))],none⟩,
   ⟨some 10,.fad 1 (.tmp 1),none⟩,
   ⟨some 11,.ld false 1 (.tmp 10),none⟩,
   ⟨some 12,.not (.tmp 11),none⟩,
   ⟨some 13,.call 92 [(.tmp 12),(.cst (.d (.int .i64 29)))],none⟩,
   ⟨some 14,.bsl 2 30 1 3 [(.int .i64 0),(.int .i64 0),(.int .i64 0)] [(0,(.tmp 6)),(1,(.tmp 9)),(2,(.tmp 13))],none⟩,
   ⟨some 15,.call 90 [(.tmp 14)],none⟩,
   ⟨some 4,.mov (.tmp 15),none⟩] [(0,2),(1,2),(0,3),(1,3),(0,5),(1,5),(2,5),(3,5),(4,5),(0,6),(1,6),(2,6),(3,6),(4,6),(0,7),(1,7),(2,7),(3,7),(4,7)])
  (.seq
   (.reg [] [⟨some 16,.mov (.tmp 4),none⟩,
    ⟨some 17,.cmp .neq (.tmp 16) (.cst (.d (.int .i64 0))),none⟩])
   (.cond (.tmp 17)
   (.seq
    (.reg [] [⟨some 18,.build [(.d (.bool false)),(.d (.bool false)),(.nils 2)] [],none⟩,
     ⟨some 19,.mov (.tmp 4),none⟩,
     ⟨none,.st 3 (.tmp 2) (.tmp 18),none⟩,
     ⟨some 3,.mov (.tmp 19),none⟩])
    .ret)
   .skip)))
  (.seq
  (.reg [] [⟨some 20,.build [(.d (.bool false)),(.d (.bool false)),(.nils 2)] [(0,1,(.cst (.d (.bool true))))],none⟩,
   ⟨none,.st 3 (.tmp 2) (.tmp 20),none⟩,
   ⟨some 3,.mov (.cst (.d (.int .i64 0))),none⟩])
  .ret)))⟩
def jr73:AFun:=⟨20,3,[.cell 2 3 true,.tmp 3],
 (.seq
 (.reg [0,1] [⟨some 1,.cbx 0 3 (.tmp 0),none⟩,
  ⟨some 2,.alloc 1 [(.d (.bool false)),(.d (.bool false)),(.nils 2)],none⟩,
  ⟨some 3,.mov (.cst (.d (.int .i64 0))),none⟩])
 (.seq
  (.seq
  (.regd [2] [⟨some 5,.ld true 3 (.tmp 1),none⟩,
   ⟨some 6,.call 80 [(.tmp 5)],none⟩,
   ⟨some 7,.fad 0 (.tmp 1),none⟩,
   ⟨some 8,.ld false 1 (.tmp 7),none⟩,
   ⟨some 9,.call 92 [(.tmp 8),(.cst (.d (.int .i64 22)))],none⟩,
   ⟨some 10,.fad 1 (.tmp 1),none⟩,
   ⟨some 11,.ld false 1 (.tmp 10),none⟩,
   ⟨some 12,.call 92 [(.tmp 11),(.cst (.d (.int .i64 9)))],none⟩,
   ⟨some 13,.bsl 2 30 1 3 [(.int .i64 0),(.int .i64 0),(.int .i64 0)] [(0,(.tmp 6)),(1,(.tmp 9)),(2,(.tmp 12))],none⟩,
   ⟨some 14,.call 90 [(.tmp 13)],none⟩,
   ⟨some 4,.mov (.tmp 14),none⟩] [(0,2),(1,2),(0,3),(1,3),(0,5),(1,5),(2,5),(3,5),(4,5),(0,6),(1,6),(2,6),(3,6),(4,6)])
  (.seq
   (.reg [] [⟨some 15,.mov (.tmp 4),none⟩,
    ⟨some 16,.cmp .neq (.tmp 15) (.cst (.d (.int .i64 0))),none⟩])
   (.cond (.tmp 16)
   (.seq
    (.reg [] [⟨some 17,.build [(.d (.bool false)),(.d (.bool false)),(.nils 2)] [],none⟩,
     ⟨some 18,.mov (.tmp 4),none⟩,
     ⟨none,.st 3 (.tmp 2) (.tmp 17),none⟩,
     ⟨some 3,.mov (.tmp 18),none⟩])
    .ret)
   .skip)))
  (.seq
  (.reg [] [⟨some 19,.build [(.d (.bool false)),(.d (.bool false)),(.nils 2)] [(1,1,(.cst (.d (.bool true))))],none⟩,
   ⟨none,.st 3 (.tmp 2) (.tmp 19),none⟩,
   ⟨some 3,.mov (.cst (.d (.int .i64 0))),none⟩])
  .ret)))⟩
def jr78:AFun:=⟨19,3,[.cell 2 3 true,.tmp 3],
 (.seq
 (.reg [0,1] [⟨some 1,.box 0 3 (.tmp 0),none⟩,
  ⟨some 2,.alloc 1 [(.d (.bool false)),(.d (.bool false)),(.nils 2)],none⟩,
  ⟨some 3,.mov (.cst (.d (.int .i64 0))),none⟩])
 (.seq
  (.seq
  (.regd [2] [⟨some 5,.fad 0 (.tmp 1),none⟩,
   ⟨some 6,.ld false 1 (.tmp 5),none⟩,
   ⟨some 7,.call 97 [(.tmp 6),(.cst (.d (.int .i64 22)))],none⟩,
   ⟨some 8,.fad 1 (.tmp 1),none⟩,
   ⟨some 9,.ld false 1 (.tmp 8),none⟩,
   ⟨some 10,.call 97 [(.tmp 9),(.cst (.d (.int .i64 9)))],none⟩,
   ⟨some 11,.bsl 2 3 1 2 [(.int .i64 0),(.int .i64 0)] [(0,(.tmp 7)),(1,(.tmp 10))],none⟩,
   ⟨some 12,.call 96 [(.tmp 11)],none⟩,
   ⟨some 4,.mov (.tmp 12),none⟩] [(0,3),(1,3),(2,3),(0,4),(1,4),(2,4)])
  (.seq
   (.reg [] [⟨some 13,.mov (.tmp 4),none⟩,
    ⟨some 14,.cmp .neq (.tmp 13) (.cst (.d (.int .i64 0))),none⟩])
   (.cond (.tmp 14)
   (.seq
    (.reg [] [⟨some 15,.build [(.d (.bool false)),(.d (.bool false)),(.nils 2)] [],none⟩,
     ⟨some 16,.mov (.tmp 4),none⟩,
     ⟨none,.st 3 (.tmp 2) (.tmp 15),none⟩,
     ⟨some 3,.mov (.tmp 16),none⟩])
    .ret)
   .skip)))
  (.seq
  (.reg [] [⟨some 17,.fad 1 (.tmp 1),none⟩,
   ⟨none,.st 1 (.tmp 17) (.cst (.d (.bool true))),none⟩])
  (.seq
   (.reg [] [⟨some 18,.ld true 3 (.tmp 1),none⟩,
    ⟨none,.st 3 (.tmp 2) (.tmp 18),none⟩,
    ⟨some 3,.mov (.cst (.d (.int .i64 0))),none⟩])
   .ret))))⟩
def jr79:AFun:=⟨19,3,[.cell 2 3 true,.tmp 3],
 (.seq
 (.reg [0,1] [⟨some 1,.cbx 0 3 (.tmp 0),none⟩,
  ⟨some 2,.alloc 1 [(.d (.bool false)),(.d (.bool false)),(.nils 2)],none⟩,
  ⟨some 3,.mov (.cst (.d (.int .i64 0))),none⟩])
 (.seq
  (.seq
  (.regd [2] [⟨some 5,.fad 0 (.tmp 1),none⟩,
   ⟨some 6,.ld false 1 (.tmp 5),none⟩,
   ⟨some 7,.call 97 [(.tmp 6),(.cst (.d (.int .i64 22)))],none⟩,
   ⟨some 8,.fad 1 (.tmp 1),none⟩,
   ⟨some 9,.ld false 1 (.tmp 8),none⟩,
   ⟨some 10,.not (.tmp 9),none⟩,
   ⟨some 11,.call 97 [(.tmp 10),(.cst (.d (.int .i64 29)))],none⟩,
   ⟨some 12,.bsl 2 3 1 2 [(.int .i64 0),(.int .i64 0)] [(0,(.tmp 7)),(1,(.tmp 11))],none⟩,
   ⟨some 13,.call 96 [(.tmp 12)],none⟩,
   ⟨some 4,.mov (.tmp 13),none⟩] [(0,3),(1,3),(2,3),(0,4),(1,4),(2,4),(0,5),(1,5),(2,5)])
  (.seq
   (.reg [] [⟨some 14,.mov (.tmp 4),none⟩,
    ⟨some 15,.cmp .neq (.tmp 14) (.cst (.d (.int .i64 0))),none⟩])
   (.cond (.tmp 15)
   (.seq
    (.reg [] [⟨some 16,.build [(.d (.bool false)),(.d (.bool false)),(.nils 2)] [],none⟩,
     ⟨some 17,.mov (.tmp 4),none⟩,
     ⟨none,.st 3 (.tmp 2) (.tmp 16),none⟩,
     ⟨some 3,.mov (.tmp 17),none⟩])
    .ret)
   .skip)))
  (.seq
  (.reg [] [⟨some 18,.build [(.d (.bool false)),(.d (.bool false)),(.nils 2)] [(0,1,(.cst (.d (.bool true))))],none⟩,
   ⟨none,.st 3 (.tmp 2) (.tmp 18),none⟩,
   ⟨some 3,.mov (.cst (.d (.int .i64 0))),none⟩])
  .ret)))⟩
def jr70:AFun:=⟨45,6,[.cell 6 3 true,.tmp 7],
 (.seq
 (.reg [0,1] [⟨some 3,.cbx 0 3 (.tmp 0),none⟩,
  ⟨some 6,.alloc 1 [(.d (.bool false)),(.d (.bool false)),(.nils 2)],none⟩,
  ⟨some 7,.mov (.cst (.d (.int .i64 0))),none⟩])
 (.seq
  (.seq
  (.regd [2] [⟨some 10,.ld true 3 (.tmp 3),none⟩,
   ⟨some 11,.call 80 [(.tmp 10)],none⟩,
   ⟨some 12,.mov (.tmp 1),none⟩,
   ⟨some 13,.call 126 [(.tmp 12)],none⟩,
   ⟨some 14,.mov (.tmp 2),none⟩,
   ⟨some 15,.call 112 [(.tmp 14)],none⟩,
   ⟨some 16,.fad 0 (.tmp 3),none⟩,
   ⟨some 17,.ld false 1 (.tmp 16),none⟩,
   ⟨some 18,.not (.tmp 17),none⟩,
   ⟨some 19,.call 92 [(.tmp 18),(.cst (.d (.int .i64 22)))],none⟩,
   ⟨some 20,.mov (.tmp 2),none⟩,
   ⟨some 21,.ld true 3 (.tmp 3),none⟩,
   ⟨some 22,.call 127 [(.tmp 21)],none⟩,
   ⟨some 23,.cmp .lss (.tmp 20) (.tmp 22),none⟩,
   ⟨some 24,.call 92 [(.tmp 23),(.cst (.d (.int .i64 11)))],none⟩,
   ⟨some 25,.bsl 2 30 1 5 [(.int .i64 0),(.int .i64 0),(.int .i64 0),(.int .i64 0),(.int .i64 0)] [(0,(.tmp 11)),(1,(.tmp 13)),(2,(.tmp 15)),(3,(.tmp 19)),(4,(.tmp 24))],none⟩,
   ⟨some 26,.call 90 [(.tmp 25)],none⟩,
   ⟨some 8,.mov (.tmp 26),none⟩] [(0,2),(1,2),(0,4),(1,4),(2,4),(3,4),(0,6),(1,6),(2,6),(3,6),(4,6),(5,6),(0,7),(1,7),(2,7),(3,7),(4,7),(5,7),(0,8),(1,8),(2,8),(3,8),(4,8),(5,8),(0,10),(1,10),(2,10),(3,10),(4,10),(5,10),(6,10),(7,10),(8,10),(9,10),(0,11),(1,11),(2,11),(3,11),(4,11),(5,11),(6,11),(7,11),(8,11),(9,11),(10,11),(10,12)])
  (.seq
   (.reg [] [⟨some 27,.mov (.tmp 8),none⟩,
    ⟨some 28,.cmp .neq (.tmp 27) (.cst (.d (.int .i64 0))),none⟩])
   (.cond (.tmp 28)
   (.seq
    (.reg [] [⟨some 29,.build [(.d (.bool false)),(.d (.bool false)),(.nils 2)] [],none⟩,
     ⟨some 30,.mov (.tmp 8),none⟩,
     ⟨none,.st 3 (.tmp 6) (.tmp 29),none⟩,
     ⟨some 7,.mov (.tmp 30),none⟩])
    .ret)
   .skip)))
  (.seq
  (.reg [3,4] [⟨some 31,.ld true 3 (.tmp 3),none⟩,
   ⟨some 32,.mov (.tmp 1),none⟩,
   ⟨some 33,.calln 5 156 2 128 [(.tmp 31),(.tmp 32)],none⟩,
   ⟨some 34,.mov (.tmp 1),none⟩,
   ⟨some 35,.mov (.tmp 2),none⟩,
   ⟨some 36,.build [(.d (.str [])),(.d (.int .i64 0))] [(0,1,(.tmp 34)),(1,1,(.tmp 35))],none⟩,
   ⟨some 37,.bsl 3 156 2 1 [(.agg [(.str []),(.int .i64 0)])] [(0,(.tmp 36))],none⟩,
   ⟨some 38,.app 4 156 2 24 (.tmp 33) (.tmp 37),none⟩,
   ⟨some 9,.mov (.tmp 38),none⟩])
  (.seq
   (.seq
   (.reg [] [⟨some 39,.mov (.tmp 9),none⟩,
    ⟨some 40,.len (.tmp 39),none⟩,
    ⟨some 41,.cmp .gtr (.tmp 40) (.cst (.d (.int .i64 8))),none⟩])
   (.cond (.tmp 41)
    (.seq
    (.reg [] [⟨some 42,.build [(.d (.bool false)),(.d (.bool false)),(.nils 2)] [],none⟩,
     ⟨none,.st 3 (.tmp 6) (.tmp 42),none⟩,
     ⟨some 7,.mov (.cst (.d (.int .i64 5))),none⟩])
    .ret)
    .skip))
   (.seq
   (.reg [] [⟨some 43,.mov (.tmp 9),none⟩,
    ⟨some 44,.build [(.d (.bool false)),(.d (.bool false)),(.nils 2)] [(0,1,(.cst (.d (.bool true)))),(2,1,(.tmp 43))],none⟩,
    ⟨none,.st 3 (.tmp 6) (.tmp 44),none⟩,
    ⟨some 7,.mov (.cst (.d (.int .i64 0))),none⟩])
   .ret)))))⟩
def jr74:AFun:=⟨34,4,[.cell 4 3 true,.tmp 5],
 (.seq
 (.reg [0,1] [⟨some 2,.cbx 0 3 (.tmp 0),none⟩,
  ⟨some 4,.alloc 1 [(.d (.bool false)),(.d (.bool false)),(.nils 2)],none⟩,
  ⟨some 5,.mov (.cst (.d (.int .i64 0))),none⟩])
 (.seq
  (.seq
  (.reg [2] [⟨some 8,.ld true 3 (.tmp 2),none⟩,
   ⟨some 9,.call 80 [(.tmp 8)],none⟩,
   ⟨some 10,.mov (.tmp 1),none⟩,
   ⟨some 11,.call 126 [(.tmp 10)],none⟩,
   ⟨some 12,.bsl 2 30 1 2 [(.int .i64 0),(.int .i64 0)] [(0,(.tmp 9)),(1,(.tmp 11))],none⟩,
   ⟨some 13,.call 90 [(.tmp 12)],none⟩,
   ⟨some 6,.mov (.tmp 13),none⟩])
  (.seq
   (.reg [] [⟨some 14,.mov (.tmp 6),none⟩,
    ⟨some 15,.cmp .neq (.tmp 14) (.cst (.d (.int .i64 0))),none⟩])
   (.cond (.tmp 15)
   (.seq
    (.reg [] [⟨some 16,.build [(.d (.bool false)),(.d (.bool false)),(.nils 2)] [],none⟩,
     ⟨some 17,.mov (.tmp 6),none⟩,
     ⟨none,.st 3 (.tmp 4) (.tmp 16),none⟩,
     ⟨some 5,.mov (.tmp 17),none⟩])
    .ret)
   .skip)))
  (.seq
  (.reg [] [⟨some 18,.ld true 3 (.tmp 2),none⟩,
   ⟨some 19,.mov (.tmp 1),none⟩,
   ⟨some 20,.calln 3 156 2 128 [(.tmp 18),(.tmp 19)],none⟩,
   ⟨some 7,.mov (.tmp 20),none⟩])
  (.seq
   (.seq
   (.reg [] [⟨some 21,.mov (.tmp 7),none⟩,
    ⟨some 22,.len (.tmp 21),none⟩,
    ⟨some 23,.fad 2 (.tmp 2),none⟩,
    ⟨some 24,.ld false 1 (.tmp 23),none⟩,
    ⟨some 25,.len (.tmp 24),none⟩,
    ⟨some 26,.cmp .eql (.tmp 22) (.tmp 25),none⟩])
   (.cond (.tmp 26)
    (.seq
    (.reg [] [⟨some 27,.build [(.d (.bool false)),(.d (.bool false)),(.nils 2)] [],none⟩,
     ⟨none,.st 3 (.tmp 4) (.tmp 27),none⟩,
     ⟨some 5,.mov (.cst (.d (.int .i64 10))),none⟩])
    .ret)
    .skip))
   (.seq
   (.reg [] [⟨some 28,.fad 0 (.tmp 2),none⟩,
    ⟨some 29,.ld false 1 (.tmp 28),none⟩,
    ⟨some 30,.fad 1 (.tmp 2),none⟩,
    ⟨some 31,.ld false 1 (.tmp 30),none⟩,
    ⟨some 32,.mov (.tmp 7),none⟩,
    ⟨some 33,.build [(.d (.bool false)),(.d (.bool false)),(.nils 2)] [(0,1,(.tmp 29)),(1,1,(.tmp 31)),(2,1,(.tmp 32))],none⟩,
    ⟨none,.st 3 (.tmp 4) (.tmp 33),none⟩,
    ⟨some 5,.mov (.cst (.d (.int .i64 0))),none⟩])
   .ret)))))⟩
def jr76:AFun:=⟨39,6,[.cell 6 3 true,.tmp 7],
 (.seq
 (.reg [0,1] [⟨some 3,.box 0 3 (.tmp 0),none⟩,
  ⟨some 6,.alloc 1 [(.d (.bool false)),(.d (.bool false)),(.nils 2)],none⟩,
  ⟨some 7,.mov (.cst (.d (.int .i64 0))),none⟩])
 (.seq
  (.reg [] [⟨some 10,.ld true 3 (.tmp 3),none⟩,
   ⟨some 11,.mov (.tmp 1),none⟩,
   ⟨some 12,.calln 5 194 2 129 [(.tmp 10),(.tmp 11)],none⟩,
   ⟨some 8,.mov (.tmp 12),none⟩])
  (.seq
  (.seq
   (.regd [2] [⟨some 13,.fad 0 (.tmp 3),none⟩,
    ⟨some 14,.ld false 1 (.tmp 13),none⟩,
    ⟨some 15,.not (.tmp 14),none⟩,
    ⟨some 16,.call 97 [(.tmp 15),(.cst (.d (.int .i64 22)))],none⟩,
    ⟨some 17,.ld true 3 (.tmp 3),none⟩,
    ⟨some 18,.mov (.tmp 2),none⟩,
    ⟨some 19,.call 124 [(.tmp 17),(.tmp 18)],none⟩,
    ⟨some 20,.call 97 [(.tmp 19),(.cst (.d (.int .i64 11)))],none⟩,
    ⟨some 21,.mov (.tmp 8),none⟩,
    ⟨some 22,.len (.tmp 21),none⟩,
    ⟨some 23,.cmp .geq (.tmp 22) (.cst (.d (.int .i64 8))),none⟩,
    ⟨some 24,.call 97 [(.tmp 23),(.cst (.d (.int .i64 5)))],none⟩,
    ⟨some 25,.bsl 2 3 1 3 [(.int .i64 0),(.int .i64 0),(.int .i64 0)] [(0,(.tmp 16)),(1,(.tmp 20)),(2,(.tmp 24))],none⟩,
    ⟨some 26,.call 96 [(.tmp 25)],none⟩,
    ⟨some 9,.mov (.tmp 26),none⟩] [(0,4),(1,4),(2,4),(3,4),(0,5),(1,5),(2,5),(3,5),(4,5),(0,8),(1,8),(2,8),(3,8),(4,8),(5,8),(6,8),(7,8),(0,9),(1,9),(2,9),(3,9),(4,9),(5,9),(6,9),(7,9),(0,10),(1,10),(2,10),(3,10),(4,10),(5,10),(6,10),(7,10)])
   (.seq
   (.reg [] [⟨some 27,.mov (.tmp 9),none⟩,
    ⟨some 28,.cmp .neq (.tmp 27) (.cst (.d (.int .i64 0))),none⟩])
   (.cond (.tmp 28)
    (.seq
    (.reg [] [⟨some 29,.build [(.d (.bool false)),(.d (.bool false)),(.nils 2)] [],none⟩,
     ⟨some 30,.mov (.tmp 9),none⟩,
     ⟨none,.st 3 (.tmp 6) (.tmp 29),none⟩,
     ⟨some 7,.mov (.tmp 30),none⟩])
    .ret)
    .skip)))
  (.seq
   (.reg [3,4] [⟨some 31,.mov (.tmp 8),none⟩,
    ⟨some 32,.mov (.tmp 1),none⟩,
    ⟨some 33,.mov (.tmp 2),none⟩,
    ⟨some 34,.build [(.d (.str [])),(.d (.int .i64 0))] [(0,1,(.tmp 32)),(1,1,(.tmp 33))],none⟩,
    ⟨some 35,.bsl 3 194 2 1 [(.agg [(.str []),(.int .i64 0)])] [(0,(.tmp 34))],none⟩,
    ⟨some 36,.app 4 194 2 24 (.tmp 31) (.tmp 35),none⟩,
    ⟨some 37,.fad 2 (.tmp 3),none⟩,
    ⟨none,.st 1 (.tmp 37) (.tmp 36),none⟩])
   (.seq
   (.reg [] [⟨some 38,.ld true 3 (.tmp 3),none⟩,
    ⟨none,.st 3 (.tmp 6) (.tmp 38),none⟩,
    ⟨some 7,.mov (.cst (.d (.int .i64 0))),none⟩])
   .ret)))))⟩
def jr77:AFun:=⟨20,3,[.cell 4 3 true,.tmp 5],
 (.seq
 (.reg [0,1] [⟨some 2,.box 0 3 (.tmp 0),none⟩,
  ⟨some 4,.alloc 1 [(.d (.bool false)),(.d (.bool false)),(.nils 2)],none⟩,
  ⟨some 5,.mov (.cst (.d (.int .i64 0))),none⟩])
 (.seq
  (.reg [] [⟨some 7,.ld true 3 (.tmp 2),none⟩,
   ⟨some 8,.mov (.tmp 1),none⟩,
   ⟨some 9,.calln 2 194 2 129 [(.tmp 7),(.tmp 8)],none⟩,
   ⟨some 6,.mov (.tmp 9),none⟩])
  (.seq
  (.seq
   (.reg [] [⟨some 10,.mov (.tmp 6),none⟩,
    ⟨some 11,.len (.tmp 10),none⟩,
    ⟨some 12,.fad 2 (.tmp 2),none⟩,
    ⟨some 13,.ld false 1 (.tmp 12),none⟩,
    ⟨some 14,.len (.tmp 13),none⟩,
    ⟨some 15,.cmp .eql (.tmp 11) (.tmp 14),none⟩])
   (.cond (.tmp 15)
   (.seq
    (.reg [] [⟨some 16,.build [(.d (.bool false)),(.d (.bool false)),(.nils 2)] [],none⟩,
     ⟨none,.st 3 (.tmp 4) (.tmp 16),none⟩,
     ⟨some 5,.mov (.cst (.d (.int .i64 10))),none⟩])
    .ret)
   .skip))
  (.seq
   (.reg [] [⟨some 17,.mov (.tmp 6),none⟩,
    ⟨some 18,.fad 2 (.tmp 2),none⟩,
    ⟨none,.st 1 (.tmp 18) (.tmp 17),none⟩])
   (.seq
   (.reg [] [⟨some 19,.ld true 3 (.tmp 2),none⟩,
    ⟨none,.st 3 (.tmp 4) (.tmp 19),none⟩,
    ⟨some 5,.mov (.cst (.d (.int .i64 0))),none⟩])
   .ret)))))⟩
def lst (s:Sw):Int:=lastT s.os s.os.length
theorem c127 (s:Sw) (hl:s.os.length≤1048576):CallDet Tryz.prog 127 [.d (.agg [.bool s.on,.bool s.rd,.slice 2 (ods s.os)])] [.int .i64 (lst s)]:=by
 have hlen:=ods_len s.os
 unfold lst
 cases hc:s.os with
 | nil =>
  refine call_of_vc (x:=jr127) (by kernel_rfl) rfl ?_
  refine sd ?_
  exact rfl
 | cons y r =>
  rw [← hc]
  refine Exists.elim (get_lt s.os (k:=r.length) (by rw [hc]; simp)) fun p hp=>?_
  have hp1:=ods_at hp
  have hll:s.os.length=r.length+1:=by rw [hc]; rfl
  have hp2:(ods s.os)[((((ods s.os).length:Nat):Int) - 1).toNat]?=some (.agg [.str p.o,.int .i64 p.t]):=by
   rw [show ((((ods s.os).length:Nat):Int) - 1).toNat=((r.length:Nat):Int).toNat by omega]; exact hp1
  rw [hll,lastT_at hp]
  refine call_of_vc (x:=jr127) (by kernel_rfl) rfl ?_
  refine sd ?_
  refine b_eq (fun t1=>?_) (fun t1=>?_)
  (exfalso; omega)
  refine ar_sub ?_ ?_
  refine an ?_ ?_
  (show (-9223372036854775808:Int)≤(↑(List.length (ods (Sw.os s))):Int) - (1:Int); omega)
  (show (↑(List.length (ods (Sw.os s))):Int) - (1:Int)≤(9223372036854775807:Int); omega)
  refine ix_at hp2 ?_ ?_
  (show (0:Int)≤(↑(List.length (ods (Sw.os s))):Int) - (1:Int); omega)
  exact rfl
theorem c124 (s:Sw) (t:Int) (hl:s.os.length≤1048576) (h0:0≤t):CallDet Tryz.prog 124 [.d (.agg [.bool s.on,.bool s.rd,.slice 2 (ods s.os)]),.d (.int .i64 t)] [.bool (decide (t < lst s))]:=by
 have hlen:=ods_len s.os
 unfold lst
 cases hc:s.os with
 | nil =>
  rw [decide_eq_false (show ¬ t < lastT [] ([]:List Od).length by show ¬ t < 0; omega)]
  refine call_of_vc (x:=jr124) (by kernel_rfl) rfl ?_
  refine sd ?_
  refine sd ?_
  exact rfl
 | cons y r =>
  rw [← hc]
  refine Exists.elim (get_lt s.os (k:=r.length) (by rw [hc]; simp)) fun p hp=>?_
  have hp1:=ods_at hp
  have hll:s.os.length=r.length+1:=by rw [hc]; rfl
  have hp2:(ods s.os)[((((ods s.os).length:Nat):Int) - 1).toNat]?=some (.agg [.str p.o,.int .i64 p.t]):=by
   rw [show ((((ods s.os).length:Nat):Int) - 1).toNat=((r.length:Nat):Int).toNat by omega]; exact hp1
  rw [hll,lastT_at hp]
  refine call_of_vc (x:=jr124) (by kernel_rfl) rfl ?_
  refine sd ?_
  refine b_lt (fun t1=>?_) (fun t1=>?_)
  refine ar_sub ?_ ?_
  refine an ?_ ?_
  (show (-9223372036854775808:Int)≤(↑(List.length (ods (Sw.os s))):Int) - (1:Int); omega)
  (show (↑(List.length (ods (Sw.os s))):Int) - (1:Int)≤(9223372036854775807:Int); omega)
  refine ix_at hp2 ?_ ?_
  (show (0:Int)≤(↑(List.length (ods (Sw.os s))):Int) - (1:Int); omega)
  refine sd ?_
  exact rfl
  (exfalso; omega)
def nxo (l:List Od):AVal:=match l with | []=>.nils 2 | _::_=>.sl 5 (ods l).length
def nxw (t:Nat) (l:List Od):AObj:=match l with | []=>.none | _::_=>.row t 2 (ods l) false
theorem nxo_snoc (l:List Od) (o:Od):nxo (l++[o])=.sl 5 (ods (l++[o])).length:=by cases l <;> rfl
theorem nxw_snoc (t:Nat) (l:List Od) (o:Od):nxw t (l++[o])=.row t 2 (ods (l++[o])) false:=by cases l <;> rfl
theorem c58 (s:Sw) (hl:s.os.length≤1048576):CallDet Tryz.prog 58 [.d (.agg [.bool s.on,.bool s.rd,.slice 2 (ods s.os)])] [.agg [.bool s.on,.bool s.rd,.slice 2 (ods s.os)]]:=by
 have hlen:=ods_len s.os
 refine call_of_vc (x:=jr58) (by kernel_rfl) rfl ?_
 rotate_left
 refine loop_st (fun k:Nat=>⟨[(2,.ptr 1 0),(3,.ptr 2 0),(12,.d (.slice 2 (ods s.os))),(13,.d (.int .i64 (((ods s.os).length:Nat):Int))),(14,.d (.int .i64 ((k:Nat))))],[.none,.box [.d (.bool false),.d (.bool false),.nils 2],.box [.d (.bool s.on),.d (.bool s.rd),nxo (s.os.take k)],.none,.none,nxw 156 (s.os.take k)]⟩) (fun k=>k≤s.os.length) (fun k=>s.os.length - k) 0 rfl (Nat.zero_le _) ?_
 intro k hk
 have hk:k≤s.os.length:=hk
 have hlk:=ods_len (s.os.take k)
 rw [List.length_take] at hlk
 dsimp only
 by_cases hkn:k < s.os.length
 ·refine Exists.elim (get_lt s.os hkn) fun o hx=>?_
  have hx1:=ods_at hx
  have hst:nxo (s.os.take (k+1))=.sl 5 (ods (s.os.take k)++[Data.agg [.str o.o,.int .i64 o.t]]).length∧nxw 156 (s.os.take (k+1))=.row 156 2 (ods (s.os.take k)++[Data.agg [.str o.o,.int .i64 o.t]]) false:=by
   rw [take_one hx,nxo_snoc,nxw_snoc,ods_app]; exact ⟨rfl,rfl⟩
  have fin:∃ a':Nat,(a'≤s.os.length∧s.os.length - a' < s.os.length - k)∧(⟨[(2,.ptr 1 0),(3,.ptr 2 0),(12,.d (.slice 2 (ods s.os))),(13,.d (.int .i64 (((ods s.os).length:Nat):Int))),(14,.d (.int .i64 ((k:Int)+1)))],[.none,.box [.d (.bool false),.d (.bool false),.nils 2],.box [.d (.bool s.on),.d (.bool s.rd),.sl 5 (ods (s.os.take k)++[Data.agg [.str o.o,.int .i64 o.t]]).length],.none,.none,.row 156 2 (ods (s.os.take k)++[Data.agg [.str o.o,.int .i64 o.t]]) false]⟩:St)=⟨[(2,.ptr 1 0),(3,.ptr 2 0),(12,.d (.slice 2 (ods s.os))),(13,.d (.int .i64 (((ods s.os).length:Nat):Int))),(14,.d (.int .i64 ((a':Nat))))],[.none,.box [.d (.bool false),.d (.bool false),.nils 2],.box [.d (.bool s.on),.d (.bool s.rd),nxo (s.os.take a')],.none,.none,nxw 156 (s.os.take a')]⟩:=⟨k+1,⟨by omega,by omega⟩,by rw [hst.1,hst.2]; rfl⟩
  cases hc:s.os.take k with
  | nil =>
   rw [hc] at fin hlk
   refine sd ?_
   refine b_lt (fun t1=>?_) (fun t1=>?_)
   refine ix_at hx1 ?_ ?_
   (show (0:Int)≤(↑k:Int); omega)
   refine sd ?_
   refine sd ?_
   refine sd ?_
   refine an ?_ ?_
   refine an ?_ ?_
   (show (1:Nat) * (24:Nat)≤(2:Nat) ^ (47:Nat); omega)
   (show (1:Nat)≤(2:Nat) ^ (47:Nat); omega)
   refine sd ?_
   refine ar_add ?_ ?_
   refine an ?_ ?_
   (show (-9223372036854775808:Int)≤(↑k:Int)+(1:Int); omega)
   (show (↑k:Int)+(1:Int)≤(9223372036854775807:Int); omega)
   rotate_left
   (exfalso; omega)
   all_goals exact fin
  | cons y r =>
   rw [hc] at fin hlk
   have hlm:(List.map od r).length+1=min k s.os.length:=hlk
   refine sd ?_
   refine b_lt (fun t1=>?_) (fun t1=>?_)
   refine ix_at hx1 ?_ ?_
   (show (0:Int)≤(↑k:Int); omega)
   refine sd ?_
   refine sd ?_
   refine sd ?_
   refine an ?_ ?_
   refine an ?_ ?_
   exact rfl
   refine an ?_ ?_
   exact rfl
   refine an ?_ ?_
   exact rfl
   refine an ?_ ?_
   (show (List.length (List.map od r)+(1:Nat)+(1:Nat)) * (24:Nat)≤(2:Nat) ^ (47:Nat); omega)
   (show List.length (List.map od r)+(1:Nat)+(1:Nat)≤(2:Nat) ^ (47:Nat); omega)
   refine sd ?_
   refine ar_add ?_ ?_
   refine an ?_ ?_
   (show (-9223372036854775808:Int)≤(↑k:Int)+(1:Int); omega)
   (show (↑k:Int)+(1:Int)≤(9223372036854775807:Int); omega)
   rotate_left
   (exfalso; omega)
   all_goals exact fin
 ·have e:s.os.take k=s.os:=List.take_of_length_le (by omega)
  rw [e]
  cases hc:s.os with
  | nil =>
   rw [hc] at hkn hlen
   refine sd ?_
   exact rfl
  | cons y r =>
   rw [hc] at hkn hlen
   have hlm:(List.map od r).length+1=(y::r).length:=hlen
   refine sd ?_
   refine b_lt (fun t1=>?_) (fun t1=>?_)
   replace t1:(↑k:Int) < (↑(List.length (List.map od r)+(1:Nat)):Int):=t1
   (exfalso; omega)
   replace t1:¬(↑k:Int) < (↑(List.length (List.map od r)+(1:Nat)):Int):=t1
   refine sd ?_
   exact rfl
theorem c71 (s:Sw) (hl:s.os.length≤1048576):CallDet Tryz.prog 71 [.d (.agg [.bool s.on,.bool s.rd,.slice 2 (ods s.os)])] [.agg [.bool s.on,.bool s.rd,.slice 2 (ods s.os)]]:=by
 have hlen:=ods_len s.os
 refine call_of_vc (x:=jr71) (by kernel_rfl) rfl ?_
 rotate_left
 refine loop_st (fun k:Nat=>⟨[(2,.ptr 1 0),(3,.ptr 2 0),(12,.d (.slice 2 (ods s.os))),(13,.d (.int .i64 (((ods s.os).length:Nat):Int))),(14,.d (.int .i64 ((k:Nat))))],[.none,.box [.d (.bool false),.d (.bool false),.nils 2],.box [.d (.bool s.on),.d (.bool s.rd),nxo (s.os.take k)],.none,.none,nxw 194 (s.os.take k)]⟩) (fun k=>k≤s.os.length) (fun k=>s.os.length - k) 0 rfl (Nat.zero_le _) ?_
 intro k hk
 have hk:k≤s.os.length:=hk
 have hlk:=ods_len (s.os.take k)
 rw [List.length_take] at hlk
 dsimp only
 by_cases hkn:k < s.os.length
 ·refine Exists.elim (get_lt s.os hkn) fun o hx=>?_
  have hx1:=ods_at hx
  have hst:nxo (s.os.take (k+1))=.sl 5 (ods (s.os.take k)++[Data.agg [.str o.o,.int .i64 o.t]]).length∧nxw 194 (s.os.take (k+1))=.row 194 2 (ods (s.os.take k)++[Data.agg [.str o.o,.int .i64 o.t]]) false:=by
   rw [take_one hx,nxo_snoc,nxw_snoc,ods_app]; exact ⟨rfl,rfl⟩
  have fin:∃ a':Nat,(a'≤s.os.length∧s.os.length - a' < s.os.length - k)∧(⟨[(2,.ptr 1 0),(3,.ptr 2 0),(12,.d (.slice 2 (ods s.os))),(13,.d (.int .i64 (((ods s.os).length:Nat):Int))),(14,.d (.int .i64 ((k:Int)+1)))],[.none,.box [.d (.bool false),.d (.bool false),.nils 2],.box [.d (.bool s.on),.d (.bool s.rd),.sl 5 (ods (s.os.take k)++[Data.agg [.str o.o,.int .i64 o.t]]).length],.none,.none,.row 194 2 (ods (s.os.take k)++[Data.agg [.str o.o,.int .i64 o.t]]) false]⟩:St)=⟨[(2,.ptr 1 0),(3,.ptr 2 0),(12,.d (.slice 2 (ods s.os))),(13,.d (.int .i64 (((ods s.os).length:Nat):Int))),(14,.d (.int .i64 ((a':Nat))))],[.none,.box [.d (.bool false),.d (.bool false),.nils 2],.box [.d (.bool s.on),.d (.bool s.rd),nxo (s.os.take a')],.none,.none,nxw 194 (s.os.take a')]⟩:=⟨k+1,⟨by omega,by omega⟩,by rw [hst.1,hst.2]; rfl⟩
  cases hc:s.os.take k with
  | nil =>
   rw [hc] at fin hlk
   refine sd ?_
   refine b_lt (fun t1=>?_) (fun t1=>?_)
   refine ix_at hx1 ?_ ?_
   (show (0:Int)≤(↑k:Int); omega)
   refine sd ?_
   refine sd ?_
   refine sd ?_
   refine an ?_ ?_
   refine an ?_ ?_
   (show (1:Nat) * (24:Nat)≤(2:Nat) ^ (47:Nat); omega)
   (show (1:Nat)≤(2:Nat) ^ (47:Nat); omega)
   refine sd ?_
   refine ar_add ?_ ?_
   refine an ?_ ?_
   (show (-9223372036854775808:Int)≤(↑k:Int)+(1:Int); omega)
   (show (↑k:Int)+(1:Int)≤(9223372036854775807:Int); omega)
   rotate_left
   (exfalso; omega)
   all_goals exact fin
  | cons y r =>
   rw [hc] at fin hlk
   have hlm:(List.map od r).length+1=min k s.os.length:=hlk
   refine sd ?_
   refine b_lt (fun t1=>?_) (fun t1=>?_)
   refine ix_at hx1 ?_ ?_
   (show (0:Int)≤(↑k:Int); omega)
   refine sd ?_
   refine sd ?_
   refine sd ?_
   refine an ?_ ?_
   refine an ?_ ?_
   exact rfl
   refine an ?_ ?_
   exact rfl
   refine an ?_ ?_
   exact rfl
   refine an ?_ ?_
   (show (List.length (List.map od r)+(1:Nat)+(1:Nat)) * (24:Nat)≤(2:Nat) ^ (47:Nat); omega)
   (show List.length (List.map od r)+(1:Nat)+(1:Nat)≤(2:Nat) ^ (47:Nat); omega)
   refine sd ?_
   refine ar_add ?_ ?_
   refine an ?_ ?_
   (show (-9223372036854775808:Int)≤(↑k:Int)+(1:Int); omega)
   (show (↑k:Int)+(1:Int)≤(9223372036854775807:Int); omega)
   rotate_left
   (exfalso; omega)
   all_goals exact fin
 ·have e:s.os.take k=s.os:=List.take_of_length_le (by omega)
  rw [e]
  cases hc:s.os with
  | nil =>
   rw [hc] at hkn hlen
   refine sd ?_
   exact rfl
  | cons y r =>
   rw [hc] at hkn hlen
   have hlm:(List.map od r).length+1=(y::r).length:=hlen
   refine sd ?_
   refine b_lt (fun t1=>?_) (fun t1=>?_)
   replace t1:(↑k:Int) < (↑(List.length (List.map od r)+(1:Nat)):Int):=t1
   (exfalso; omega)
   replace t1:¬(↑k:Int) < (↑(List.length (List.map od r)+(1:Nat)):Int):=t1
   refine sd ?_
   exact rfl
theorem c129r (s:Sw) (off:Nm) (hl:s.os.length≤1048576):CallRow Tryz.prog 129 [.d (.agg [.bool s.on,.bool s.rd,.slice 2 (ods s.os)]),.d (.str off)] 194 2 (ods (keepO off s.os)):=by
 have hlen:=ods_len s.os
 refine callRow_of_vc (x:=jr129) (by kernel_rfl) rfl ?_
 rotate_left
 refine loop_st (fun k:Nat=>⟨[(1,.d (.str off)),(2,.ptr 0 0),(5,.sl 2 (ods (keepO off (s.os.take k))).length),(6,.d (.int .i64 ((k:Nat))))],[.cbox [.bool s.on,.bool s.rd,.slice 2 (ods s.os)],.none,.row 194 2 (ods (keepO off (s.os.take k))) false]⟩) (fun k=>k≤s.os.length) (fun k=>s.os.length - k) 0 rfl (Nat.zero_le _) ?_
 intro k hk
 have hk:k≤s.os.length:=hk
 have hlk:=ods_len (keepO off (s.os.take k))
 have hle:=keepO_le off (s.os.take k)
 rw [List.length_take] at hle
 dsimp only
 by_cases hkn:k < s.os.length
 ·refine Exists.elim (get_lt s.os hkn) fun o hx=>?_
  have hx1:=ods_at hx
  have hs:keepO off (s.os.take (k+1))=bif (o.o==off) then keepO off (s.os.take k) else keepO off (s.os.take k)++[o]:=by rw [take_one hx,keepO_snoc]
  cases e:(o.o==off) with
  | true =>
   rw [e] at hs
   have hs:keepO off (s.os.take (k+1))=keepO off (s.os.take k):=hs
   have ebn:(o.o != off)=false:=by rw [bne,e]; rfl
   have fin:∃ a':Nat,(a'≤s.os.length∧s.os.length - a' < s.os.length - k)∧(⟨[(1,.d (.str off)),(2,.ptr 0 0),(5,.sl 2 (ods (keepO off (s.os.take k))).length),(6,.d (.int .i64 ((k:Int)+1)))],[.cbox [.bool s.on,.bool s.rd,.slice 2 (ods s.os)],.none,.row 194 2 (ods (keepO off (s.os.take k))) false]⟩:St)=⟨[(1,.d (.str off)),(2,.ptr 0 0),(5,.sl 2 (ods (keepO off (s.os.take a'))).length),(6,.d (.int .i64 ((a':Nat))))],[.cbox [.bool s.on,.bool s.rd,.slice 2 (ods s.os)],.none,.row 194 2 (ods (keepO off (s.os.take a'))) false]⟩:=⟨k+1,⟨by omega,by omega⟩,by rw [hs]; rfl⟩
   refine sd ?_
   refine b_lt (fun t1=>?_) (fun t1=>?_)
   refine ix_at hx1 ?_ ?_
   (show (0:Int)≤(↑k:Int); omega)
   refine b_f ebn ?_
   refine ar_add ?_ ?_
   refine an ?_ ?_
   (show (-9223372036854775808:Int)≤(↑k:Int)+(1:Int); omega)
   (show (↑k:Int)+(1:Int)≤(9223372036854775807:Int); omega)
   rotate_left
   (exfalso; omega)
   all_goals exact fin
  | false =>
   rw [e] at hs
   have hs:keepO off (s.os.take (k+1))=keepO off (s.os.take k)++[o]:=hs
   have ebn:(o.o != off)=true:=by rw [bne,e]; rfl
   have fin:∃ a':Nat,(a'≤s.os.length∧s.os.length - a' < s.os.length - k)∧(⟨[(1,.d (.str off)),(2,.ptr 0 0),(5,.sl 2 (ods (keepO off (s.os.take k))++[Data.agg [.str o.o,.int .i64 o.t]]).length),(6,.d (.int .i64 ((k:Int)+1)))],[.cbox [.bool s.on,.bool s.rd,.slice 2 (ods s.os)],.none,.row 194 2 (ods (keepO off (s.os.take k))++[Data.agg [.str o.o,.int .i64 o.t]]) false]⟩:St)=⟨[(1,.d (.str off)),(2,.ptr 0 0),(5,.sl 2 (ods (keepO off (s.os.take a'))).length),(6,.d (.int .i64 ((a':Nat))))],[.cbox [.bool s.on,.bool s.rd,.slice 2 (ods s.os)],.none,.row 194 2 (ods (keepO off (s.os.take a'))) false]⟩:=⟨k+1,⟨by omega,by omega⟩,by rw [hs,ods_app]; rfl⟩
   refine sd ?_
   refine b_lt (fun t1=>?_) (fun t1=>?_)
   refine ix_at hx1 ?_ ?_
   (show (0:Int)≤(↑k:Int); omega)
   refine b_t ebn ?_
   refine ix_at hx1 ?_ ?_
   (show (0:Int)≤(↑k:Int); omega)
   refine sd ?_
   refine sd ?_
   refine sd ?_
   refine an ?_ ?_
   refine an ?_ ?_
   exact rfl
   refine an ?_ ?_
   exact rfl
   refine an ?_ ?_
   exact rfl
   refine an ?_ ?_
   (show (List.length (ods (keepO off (List.take k (Sw.os s))))+(1:Nat)) * (24:Nat)≤(2:Nat) ^ (47:Nat); omega)
   (show List.length (ods (keepO off (List.take k (Sw.os s))))+(1:Nat)≤(2:Nat) ^ (47:Nat); omega)
   refine ar_add ?_ ?_
   refine an ?_ ?_
   (show (-9223372036854775808:Int)≤(↑k:Int)+(1:Int); omega)
   (show (↑k:Int)+(1:Int)≤(9223372036854775807:Int); omega)
   rotate_left
   (exfalso; omega)
   all_goals exact fin
 ·have e:s.os.take k=s.os:=List.take_of_length_le (by omega)
  rw [e]
  refine sd ?_
  refine b_lt (fun t1=>?_) (fun t1=>?_)
  (exfalso; omega)
  rotate_left
  exact .inl ⟨2,⟨rfl,rfl⟩,rfl⟩
theorem c125 (s:Sw) (hl:s.os.length≤1048576):CallDet Tryz.prog 125 [.d (.agg [.bool s.on,.bool s.rd,.slice 2 (ods s.os)]),.d (.agg [.bool s.on,.bool s.rd,.slice 2 (ods s.os)])] [.bool true]:=by
 have hlen:=ods_len s.os
 have eb:∀ b:Bool,(b != b)=false:=fun b=>by cases b <;> rfl
 have h1:=eb s.on
 have h2:=eb s.rd
 refine call_of_vc (x:=jr125) (by kernel_rfl) rfl ?_
 refine b_f h1 ?_
 refine b_f h2 ?_
 refine sd ?_
 refine b_ne (fun t1=>?_) (fun t1=>?_)
 (exfalso; omega)
 rotate_left
 refine loop_st (fun k:Nat=>⟨[(2,.ptr 0 0),(3,.ptr 1 0),(5,.d (.int .i64 ((k:Nat))))],[.cbox [.bool s.on,.bool s.rd,.slice 2 (ods s.os)],.cbox [.bool s.on,.bool s.rd,.slice 2 (ods s.os)]]⟩) (fun k=>k≤s.os.length) (fun k=>s.os.length - k) 0 rfl (Nat.zero_le _) ?_
 intro k hk
 have hk:k≤s.os.length:=hk
 dsimp only
 by_cases hkn:k < s.os.length
 ·refine Exists.elim (get_lt s.os hkn) fun o hx=>?_
  have hx1:=ods_at hx
  have fin:∃ a':Nat,(a'≤s.os.length∧s.os.length - a' < s.os.length - k)∧(⟨[(2,.ptr 0 0),(3,.ptr 1 0),(5,.d (.int .i64 ((k:Int)+1)))],[.cbox [.bool s.on,.bool s.rd,.slice 2 (ods s.os)],.cbox [.bool s.on,.bool s.rd,.slice 2 (ods s.os)]]⟩:St)=⟨[(2,.ptr 0 0),(3,.ptr 1 0),(5,.d (.int .i64 ((a':Nat))))],[.cbox [.bool s.on,.bool s.rd,.slice 2 (ods s.os)],.cbox [.bool s.on,.bool s.rd,.slice 2 (ods s.os)]]⟩:=⟨k+1,⟨by omega,by omega⟩,rfl⟩
  refine sd ?_
  refine b_lt (fun t2=>?_) (fun t2=>?_)
  refine ix_at hx1 ?_ ?_
  (show (0:Int)≤(↑k:Int); omega)
  refine ix_at hx1 ?_ ?_
  (show (0:Int)≤(↑k:Int); omega)
  refine ca (Exists.intro _ (And.intro rfl rfl)) ?_
  refine b_intro (fun t3=>?_) (fun t3=>?_)
  replace t3:(!(Od.o o==Od.o o&&(Od.t o==Od.t o&&true)))=true:=t3
  rotate_left
  replace t3:(!(Od.o o==Od.o o&&(Od.t o==Od.t o&&true)))=false:=t3
  refine ar_add ?_ ?_
  refine an ?_ ?_
  (show (-9223372036854775808:Int)≤(↑k:Int)+(1:Int); omega)
  (show (↑k:Int)+(1:Int)≤(9223372036854775807:Int); omega)
  rotate_left
  (exfalso; omega)
  all_goals first | exact fin | (simp at t1; done) | (simp at t2; done) | (simp at t3; done)
 ·refine sd ?_
  refine b_lt (fun t2=>?_) (fun t2=>?_)
  (exfalso; omega)
  exact rfl
theorem c65s (s:Sw) (hl:s.os.length≤1048576):CallDet Tryz.prog 65 [.d (.agg [.bool s.on,.bool s.rd,.slice 2 (ods s.os)]),.d (.int .i64 0),.d (.int .i64 0),.d (.agg [.bool s.on,.bool s.rd,.slice 2 (ods s.os)])] [.bool true]:=by
 have c71_:=c71 s hl
 have c125_:=c125 s hl
 refine call_of_vc (x:=jr65) (by kernel_rfl) rfl ?_
 refine sd ?_
 refine ca c71_ ?_
 refine ca c125_ ?_
 refine sd ?_
 exact rfl
theorem c65z (e:Int) (he:¬ e=0) (a b:Bool) (u:List Data):CallDet Tryz.prog 65 [.d (.agg [.bool false,.bool false,.slice 2 []]),.d (.int .i64 e),.d (.int .i64 e),.d (.agg [.bool a,.bool b,.slice 2 u])] [.bool true]:=by
 have c71_:=c71 ⟨false,false,[]⟩ (by simp)
 have c125_:=c125 ⟨false,false,[]⟩ (by simp)
 refine call_of_vc (x:=jr65) (by kernel_rfl) rfl ?_
 refine sd ?_
 refine b_ne (fun t1=>?_) (fun t1=>?_)
 refine ca c71_ ?_
 refine ca c125_ ?_
 refine sd ?_
 rotate_left
 (exfalso; omega)
 exact resB (by simp [cmpF])
def wtE (s:Sw) (off:Nm):Int:=firstOf [ckS s,bif !(isNm off) then 8 else 0]
def orF (s:Sw) (t:Int):Int:=firstOf [bif !s.on then 22 else 0,bif decide (t < lst s) then 11 else 0]
def orE (s:Sw) (off:Nm) (t:Int):Int:=firstOf [bif !s.on then 22 else 0,bif decide (t < lst s) then 11 else 0,bif decide (8≤(((ods (keepO off s.os)).length:Nat):Int)) then 5 else 0]
def or0 (s:Sw) (off:Nm) (t:Int):Int:=firstOf [wtE s off,within3 t 0 100000000]
theorem or_all (s:Sw) (off:Nm) (t:Int):firstOf [ckS s,bif !(isNm off) then 8 else 0,within3 t 0 100000000,bif !s.on then 22 else 0,bif decide (t < lst s) then 11 else 0]=bif or0 s off t != 0 then or0 s off t else orF s t:=by
 unfold or0 wtE orF
 by_cases h1:ckS s=0
 ·rw [h1,fo_z,fo_z]
  cases isNm off with
  | false=>rfl
  | true =>
   have e:firstOf [firstOf [bif !true then (8:Int) else 0],within3 t 0 100000000]=within3 t 0 100000000:=by
    show firstOf [(0:Int),within3 t 0 100000000]=_
    rw [fo_z]
    by_cases h3:within3 t 0 100000000=0
    ·rw [h3]; rfl
    ·rw [fo_nz h3]
   rw [e]
   show firstOf ((0:Int)::_)=_
   rw [fo_z]
   by_cases h3:within3 t 0 100000000=0
   ·rw [h3]; rfl
   ·rw [fo_nz h3,bne_t h3]; rfl
 ·rw [fo_nz h1,fo_nz h1,fo_nz h1,bne_t h1]; rfl
theorem wtE_0 {s:Sw} {off:Nm} (h:wtE s off=0):ckS s=0∧isNm off=true:=by
 refine ⟨firstOf_zero h (ckS s) (by simp),?_⟩
 have h2:=firstOf_zero h (bif !(isNm off) then 8 else 0) (by simp)
 cases e:isNm off with
 | true=>rfl
 | false=>rw [e] at h2; cases h2
theorem or0_0 {s:Sw} {off:Nm} {t:Int} (h:or0 s off t=0):wtE s off=0∧0≤t∧t≤100000000 :=
 ⟨firstOf_zero h (wtE s off) (by simp),within_ok (firstOf_zero h (within3 t 0 100000000) (by simp))⟩
def swO (s:Sw) (off:Nm) (t:Int):Sw:=⟨true,false,keepO off s.os++[⟨off,t⟩]⟩
theorem orE_F {s:Sw} {off:Nm} {t:Int} (h:¬ orF s t=0):orE s off t=orF s t:=by
 unfold orE; unfold orF at h ⊢
 cases e:s.on with
 | false=>rfl
 | true =>
  rw [e] at h
  cases e2:decide (t < lst s) with
  | false=>rw [e2] at h; exact absurd rfl h
  | true=>rfl
theorem orE_0 {s:Sw} {off:Nm} {t:Int} (h:orF s t=0):orE s off t=bif decide (8≤(((ods (keepO off s.os)).length:Nat):Int)) then 5 else 0:=by
 unfold orE; unfold orF at h
 cases e:s.on with
 | false=>rw [e] at h; cases h
 | true =>
  rw [e] at h
  cases e2:decide (t < lst s) with
  | false=>cases decide (8≤(((ods (keepO off s.os)).length:Nat):Int)) <;> rfl
  | true=>rw [e2] at h; cases h
theorem c70 (s:Sw) (off:Nm) (t:Int) (hl:s.os.length≤1000000):CallDet Tryz.prog 70 [.d (.agg [.bool s.on,.bool s.rd,.slice 2 (ods s.os)]),.d (.str off),.d (.int .i64 t)] (bif or0 s off t != 0 then [.agg [.bool false,.bool false,.slice 2 []],.int .i64 (or0 s off t)] else bif orE s off t != 0 then [.agg [.bool false,.bool false,.slice 2 []],.int .i64 (orE s off t)] else [.agg [.bool (swO s off t).on,.bool (swO s off t).rd,.slice 2 (ods (swO s off t).os)],.int .i64 0]):=by
 have hlen:=ods_len s.os
 have hkl:=keepO_le off s.os
 have hkn:=ods_len (keepO off s.os)
 have c80_:=c80 s (by omega)
 have c126_:=c126 off
 have c112_:=c112 t
 have c127_:=c127 s (by omega)
 have c128r_:=c128r s.on s.rd s.os off (by omega)
 have c90_:CallDet Tryz.prog 90 [.d (.slice 1 [.int .i64 (ckS s),.int .i64 (bif !(isNm off) then 8 else 0),.int .i64 (within3 t 0 100000000),.int .i64 (bif !s.on then 22 else 0),.int .i64 (bif decide (t < lst s) then 11 else 0)])] [.int .i64 (bif or0 s off t != 0 then or0 s off t else orF s t)]:=by
  rw [← or_all]; exact c90 [ckS s,bif !(isNm off) then 8 else 0,within3 t 0 100000000,bif !s.on then 22 else 0,bif decide (t < lst s) then 11 else 0] (by simp)
 by_cases h0:or0 s off t=0
 ·rw [h0] at c90_ ⊢
  have c90_:CallDet Tryz.prog 90 [.d (.slice 1 [.int .i64 (ckS s),.int .i64 (bif !(isNm off) then 8 else 0),.int .i64 (within3 t 0 100000000),.int .i64 (bif !s.on then 22 else 0),.int .i64 (bif decide (t < lst s) then 11 else 0)])] [.int .i64 (orF s t)]:=c90_
  have hla:(ods (keepO off s.os)++[Data.agg [.str off,.int .i64 t]]).length=(ods (keepO off s.os)).length+1:=by rw [List.length_append]; rfl
  by_cases hF:orF s t=0
  ·rw [orE_0 hF]
   rw [hF] at c90_
   by_cases h8:8≤(((ods (keepO off s.os)).length:Nat):Int)
   ·rw [decide_eq_true h8]
    refine call_of_vc (x:=jr70) (by kernel_rfl) rfl ?_
    refine ca c80_ ?_
    refine ca c126_ ?_
    refine ca c112_ ?_
    refine ca (c92 _ _) ?_
    refine ca c127_ ?_
    refine sd ?_
    refine ca (c92 _ _) ?_
    refine sd ?_
    refine sd ?_
    refine ca c90_ ?_
    refine sd ?_
    refine ca (c128r _ _ _ _ ?_) ?_
    (show List.length (Sw.os s)≤(1048576:Nat); omega)
    refine sd ?_
    refine sd ?_
    refine sd ?_
    refine an ?_ ?_
    refine an ?_ ?_
    exact rfl
    refine an ?_ ?_
    exact rfl
    refine an ?_ ?_
    exact rfl
    refine an ?_ ?_
    (show (List.length (ods (keepO off (Sw.os s)))+(1:Nat)) * (24:Nat)≤(2:Nat) ^ (47:Nat); omega)
    (show List.length (ods (keepO off (Sw.os s)))+(1:Nat)≤(2:Nat) ^ (47:Nat); omega)
    refine sd ?_
    refine sd ?_
    refine b_lt (fun t1=>?_) (fun t1=>?_)
    replace t1:(8:Int) < (↑(List.length (ods (keepO off (Sw.os s))++[Data.agg [Data.str off,Data.int IntKind.i64 t]])):Int):=t1
    exact rfl
    replace t1:¬(8:Int) < (↑(List.length (ods (keepO off (Sw.os s))++[Data.agg [Data.str off,Data.int IntKind.i64 t]])):Int):=t1
    (exfalso; omega)
   ·rw [decide_eq_false h8]
    have hS:ods (keepO off s.os++[⟨off,t⟩])=ods (keepO off s.os)++[Data.agg [.str off,.int .i64 t]]:=ods_app _ _
    have fin:resV [.agg [.bool true,.bool false,.slice 2 (ods (keepO off s.os)++[Data.agg [.str off,.int .i64 t]])],.int .i64 0]=resV [.agg [.bool (swO s off t).on,.bool (swO s off t).rd,.slice 2 (ods (swO s off t).os)],.int .i64 0]:=by unfold swO; rw [hS]
    refine call_of_vc (x:=jr70) (by kernel_rfl) rfl ?_
    refine ca c80_ ?_
    refine ca c126_ ?_
    refine ca c112_ ?_
    refine ca (c92 _ _) ?_
    refine ca c127_ ?_
    refine sd ?_
    refine ca (c92 _ _) ?_
    refine sd ?_
    refine sd ?_
    refine ca c90_ ?_
    refine sd ?_
    refine ca (c128r _ _ _ _ ?_) ?_
    (show List.length (Sw.os s)≤(1048576:Nat); omega)
    refine sd ?_
    refine sd ?_
    refine sd ?_
    refine an ?_ ?_
    refine an ?_ ?_
    exact rfl
    refine an ?_ ?_
    exact rfl
    refine an ?_ ?_
    exact rfl
    refine an ?_ ?_
    (show (List.length (ods (keepO off (Sw.os s)))+(1:Nat)) * (24:Nat)≤(2:Nat) ^ (47:Nat); omega)
    (show List.length (ods (keepO off (Sw.os s)))+(1:Nat)≤(2:Nat) ^ (47:Nat); omega)
    refine sd ?_
    refine sd ?_
    refine b_lt (fun t1=>?_) (fun t1=>?_)
    replace t1:(8:Int) < (↑(List.length (ods (keepO off (Sw.os s))++[Data.agg [Data.str off,Data.int IntKind.i64 t]])):Int):=t1
    (exfalso; omega)
    replace t1:¬(8:Int) < (↑(List.length (ods (keepO off (Sw.os s))++[Data.agg [Data.str off,Data.int IntKind.i64 t]])):Int):=t1
    refine sd ?_
    refine sd ?_
    assumption
    all_goals exact fin
  ·rw [orE_F hF,bne_t hF]
   refine call_of_vc (x:=jr70) (by kernel_rfl) rfl ?_
   refine ca c80_ ?_
   refine ca c126_ ?_
   refine ca c112_ ?_
   refine ca (c92 _ _) ?_
   refine ca c127_ ?_
   refine sd ?_
   refine ca (c92 _ _) ?_
   refine sd ?_
   refine sd ?_
   refine ca c90_ ?_
   refine sd ?_
   refine b_ne (fun t1=>?_) (fun t1=>?_)
   exact rfl
   (exfalso; omega)
 ·rw [bne_t h0] at c90_ ⊢
  refine call_of_vc (x:=jr70) (by kernel_rfl) rfl ?_
  refine ca c80_ ?_
  refine ca c126_ ?_
  refine ca c112_ ?_
  refine ca (c92 _ _) ?_
  refine ca c127_ ?_
  refine sd ?_
  refine ca (c92 _ _) ?_
  refine sd ?_
  refine sd ?_
  refine ca c90_ ?_
  refine sd ?_
  refine b_ne (fun t1=>?_) (fun t1=>?_)
  replace t1:¬or0 s off t=(0:Int):=t1
  exact rfl
  replace t1:or0 s off t=(0:Int):=t1
  (exfalso; omega)
theorem rd_0 {s:Sw} (h:ckS s=0) (hon:s.on=true):s.rd=false:=by
 have h2:=firstOf_zero (ckS_00 h) (bif (bif s.on then s.rd else decide ((0:Int) < (((ods s.os).length:Nat):Int))) then 22 else 0) (by simp)
 rw [hon] at h2
 cases e:s.rd with
 | false=>rfl
 | true=>rw [e] at h2; cases h2
theorem os_0 {s:Sw} (h:ckS s=0) (hon:s.on=false):s.os=[]:=by
 have h2:=firstOf_zero (ckS_00 h) (bif (bif s.on then s.rd else decide ((0:Int) < (((ods s.os).length:Nat):Int))) then 22 else 0) (by simp)
 rw [hon,ods_len] at h2
 by_cases e:(0:Int) < ((s.os.length:Nat):Int)
 ·rw [cond_false,decide_eq_true e] at h2; cases h2
 ·exact List.length_eq_zero_iff.1 (by omega)
theorem c76 (s:Sw) (off:Nm) (t:Int) (h:or0 s off t=0):CallDet Tryz.prog 76 [.d (.agg [.bool s.on,.bool s.rd,.slice 2 (ods s.os)]),.d (.str off),.d (.int .i64 t)] (bif orE s off t != 0 then [.agg [.bool false,.bool false,.slice 2 []],.int .i64 (orE s off t)] else [.agg [.bool (swO s off t).on,.bool (swO s off t).rd,.slice 2 (ods (swO s off t).os)],.int .i64 0]):=by
 obtain ⟨hw,h0,h1⟩:=or0_0 h
 obtain ⟨hc,hn⟩:=wtE_0 hw
 have hl:=ckS_len hc
 have hlen:=ods_len s.os
 have hkl:=keepO_le off s.os
 have hkn:=ods_len (keepO off s.os)
 have c124_:=c124 s t (by omega) h0
 have c129r_:=c129r s off (by omega)
 have c96_:CallDet Tryz.prog 96 [.d (.slice 1 [.int .i64 (bif !s.on then 22 else 0),.int .i64 (bif decide (t < lst s) then 11 else 0),.int .i64 (bif decide (8≤(((ods (keepO off s.os)).length:Nat):Int)) then 5 else 0)])] [.int .i64 (orE s off t)]:=c96 [bif !s.on then 22 else 0,bif decide (t < lst s) then 11 else 0,bif decide (8≤(((ods (keepO off s.os)).length:Nat):Int)) then 5 else 0] (by simp)
 by_cases hF:orE s off t=0
 ·have hon : s.on = true := by
   have h2:=firstOf_zero hF (bif !s.on then 22 else 0) (by simp)
   cases e:s.on with
   | true=>rfl
   | false=>rw [e] at h2; cases h2
  have hrd:=rd_0 hc hon
  have hS:ods (keepO off s.os++[⟨off,t⟩])=ods (keepO off s.os)++[Data.agg [.str off,.int .i64 t]]:=ods_app _ _
  have fin:resV [.agg [.bool s.on,.bool s.rd,.slice 2 (ods (keepO off s.os)++[Data.agg [.str off,.int .i64 t]])],.int .i64 0]=resV [.agg [.bool (swO s off t).on,.bool (swO s off t).rd,.slice 2 (ods (swO s off t).os)],.int .i64 0]:=by unfold swO; rw [hS,hon,hrd]
  rw [hF] at c96_ ⊢
  refine call_of_vc (x:=jr76) (by kernel_rfl) rfl ?_
  refine ca (c129r _ _ ?_) ?_
  (show List.length (Sw.os s)≤(1048576:Nat); omega)
  refine ca (c97 _ _) ?_
  refine ca c124_ ?_
  refine ca (c97 _ _) ?_
  refine sd ?_
  refine sd ?_
  refine ca (c97 _ _) ?_
  refine sd ?_
  refine sd ?_
  refine ca c96_ ?_
  refine sd ?_
  refine sd ?_
  refine sd ?_
  refine sd ?_
  refine an ?_ ?_
  refine an ?_ ?_
  exact rfl
  refine an ?_ ?_
  exact rfl
  refine an ?_ ?_
  exact rfl
  refine an ?_ ?_
  (show (List.length (ods (keepO off (Sw.os s)))+(1:Nat)) * (24:Nat)≤(2:Nat) ^ (47:Nat); omega)
  (show List.length (ods (keepO off (Sw.os s)))+(1:Nat)≤(2:Nat) ^ (47:Nat); omega)
  refine sd ?_
  refine sd ?_
  assumption
  all_goals exact fin
 ·rw [bne_t hF]
  refine call_of_vc (x:=jr76) (by kernel_rfl) rfl ?_
  refine ca (c129r _ _ ?_) ?_
  (show List.length (Sw.os s)≤(1048576:Nat); omega)
  refine ca (c97 _ _) ?_
  refine ca c124_ ?_
  refine ca (c97 _ _) ?_
  refine sd ?_
  refine sd ?_
  refine ca (c97 _ _) ?_
  refine sd ?_
  refine sd ?_
  refine ca c96_ ?_
  refine sd ?_
  refine b_ne (fun t1=>?_) (fun t1=>?_)
  exact rfl
  (exfalso; omega)
def wdE (s:Sw) (off:Nm):Int:=bif (((ods (keepO off s.os)).length:Nat):Int)==(((ods s.os).length:Nat):Int) then 10 else 0
def swW (s:Sw) (off:Nm):Sw:=⟨s.on,s.rd,keepO off s.os⟩
theorem c74 (s:Sw) (off:Nm) (hl:s.os.length≤1000000):CallDet Tryz.prog 74 [.d (.agg [.bool s.on,.bool s.rd,.slice 2 (ods s.os)]),.d (.str off)] (bif wtE s off != 0 then [.agg [.bool false,.bool false,.slice 2 []],.int .i64 (wtE s off)] else bif wdE s off != 0 then [.agg [.bool false,.bool false,.slice 2 []],.int .i64 10] else [.agg [.bool (swW s off).on,.bool (swW s off).rd,.slice 2 (ods (swW s off).os)],.int .i64 0]):=by
 have hlen:=ods_len s.os
 have hkl:=keepO_le off s.os
 have hkn:=ods_len (keepO off s.os)
 have c80_:=c80 s (by omega)
 have c126_:=c126 off
 have c128r_:=c128r s.on s.rd s.os off (by omega)
 have c90_:CallDet Tryz.prog 90 [.d (.slice 1 [.int .i64 (ckS s),.int .i64 (bif !(isNm off) then 8 else 0)])] [.int .i64 (wtE s off)]:=c90 [ckS s,bif !(isNm off) then 8 else 0] (by simp)
 by_cases h0:wtE s off=0
 ·rw [h0] at c90_ ⊢
  by_cases hd:(((ods (keepO off s.os)).length:Nat):Int)=(((ods s.os).length:Nat):Int)
  ·have e:wdE s off=10:=by unfold wdE; rw [beq_iff_eq.2 hd]; rfl
   rw [e]
   refine call_of_vc (x:=jr74) (by kernel_rfl) rfl ?_
   refine ca c80_ ?_
   refine ca c126_ ?_
   refine sd ?_
   refine sd ?_
   refine ca c90_ ?_
   refine sd ?_
   refine ca (c128r _ _ _ _ ?_) ?_
   (show List.length (Sw.os s)≤(1048576:Nat); omega)
   refine sd ?_
   refine sd ?_
   refine b_eq (fun t1=>?_) (fun t1=>?_)
   exact rfl
   (exfalso; omega)
  ·have e:wdE s off=0:=by unfold wdE; rw [beq_eq_false_iff_ne.2 hd]; rfl
   rw [e]
   refine call_of_vc (x:=jr74) (by kernel_rfl) rfl ?_
   refine ca c80_ ?_
   refine ca c126_ ?_
   refine sd ?_
   refine sd ?_
   refine ca c90_ ?_
   refine sd ?_
   refine ca (c128r _ _ _ _ ?_) ?_
   (show List.length (Sw.os s)≤(1048576:Nat); omega)
   refine sd ?_
   refine sd ?_
   refine b_eq (fun t1=>?_) (fun t1=>?_)
   (exfalso; omega)
   refine sd ?_
   refine sd ?_
   exact rfl
 ·rw [bne_t h0]
  refine call_of_vc (x:=jr74) (by kernel_rfl) rfl ?_
  refine ca c80_ ?_
  refine ca c126_ ?_
  refine sd ?_
  refine sd ?_
  refine ca c90_ ?_
  refine sd ?_
  refine b_ne (fun t1=>?_) (fun t1=>?_)
  exact rfl
  (exfalso; omega)
theorem c77 (s:Sw) (off:Nm) (hl:s.os.length≤1000000):CallDet Tryz.prog 77 [.d (.agg [.bool s.on,.bool s.rd,.slice 2 (ods s.os)]),.d (.str off)] (bif wdE s off != 0 then [.agg [.bool false,.bool false,.slice 2 []],.int .i64 10] else [.agg [.bool (swW s off).on,.bool (swW s off).rd,.slice 2 (ods (swW s off).os)],.int .i64 0]):=by
 have hlen:=ods_len s.os
 have hkl:=keepO_le off s.os
 have hkn:=ods_len (keepO off s.os)
 have c129r_:=c129r s off (by omega)
 by_cases hd:(((ods (keepO off s.os)).length:Nat):Int)=(((ods s.os).length:Nat):Int)
 ·have e:wdE s off=10:=by unfold wdE; rw [beq_iff_eq.2 hd]; rfl
  rw [e]
  refine call_of_vc (x:=jr77) (by kernel_rfl) rfl ?_
  refine ca (c129r _ _ ?_) ?_
  (show List.length (Sw.os s)≤(1048576:Nat); omega)
  refine sd ?_
  refine sd ?_
  refine b_eq (fun t1=>?_) (fun t1=>?_)
  exact rfl
  (exfalso; omega)
 ·have e:wdE s off=0:=by unfold wdE; rw [beq_eq_false_iff_ne.2 hd]; rfl
  rw [e]
  refine call_of_vc (x:=jr77) (by kernel_rfl) rfl ?_
  refine ca (c129r _ _ ?_) ?_
  (show List.length (Sw.os s)≤(1048576:Nat); omega)
  refine sd ?_
  refine sd ?_
  refine b_eq (fun t1=>?_) (fun t1=>?_)
  (exfalso; omega)
  refine sd ?_
  refine sd ?_
  exact rfl
def rlE (s:Sw):Int:=firstOf [bif s.on then 22 else 0,bif s.rd then 9 else 0]
def cfE (s:Sw):Int:=firstOf [bif s.on then 22 else 0,bif !s.rd then 29 else 0]
theorem first3c {x y z:Int}:firstOf [x,y,z]=bif x != 0 then x else firstOf [y,z]:=by
 by_cases h:x=0
 ·rw [h]; rfl
 ·rw [fo_nz h,bne_t h]; rfl
theorem c73 (s:Sw) (hl:s.os.length≤1000000):CallDet Tryz.prog 73 [.d (.agg [.bool s.on,.bool s.rd,.slice 2 (ods s.os)])] (bif ckS s != 0 then [.agg [.bool false,.bool false,.slice 2 []],.int .i64 (ckS s)] else bif rlE s != 0 then [.agg [.bool false,.bool false,.slice 2 []],.int .i64 (rlE s)] else [.agg [.bool false,.bool true,.slice 2 []],.int .i64 0]):=by
 have c80_:=c80 s (by omega)
 have c90_:CallDet Tryz.prog 90 [.d (.slice 1 [.int .i64 (ckS s),.int .i64 (bif s.on then 22 else 0),.int .i64 (bif s.rd then 9 else 0)])] [.int .i64 (bif ckS s != 0 then ckS s else rlE s)]:=by
  have h:=c90 [ckS s,bif s.on then 22 else 0,bif s.rd then 9 else 0] (by simp)
  rw [first3c] at h; exact h
 by_cases h0:ckS s=0
 ·rw [h0] at c90_ ⊢
  have c90_:CallDet Tryz.prog 90 [.d (.slice 1 [.int .i64 0,.int .i64 (bif s.on then 22 else 0),.int .i64 (bif s.rd then 9 else 0)])] [.int .i64 (rlE s)]:=c90_
  rw [h0] at c80_
  by_cases h1:rlE s=0
  ·rw [h1] at c90_ ⊢
   refine call_of_vc (x:=jr73) (by kernel_rfl) rfl ?_
   refine ca c80_ ?_
   refine ca (c92 _ _) ?_
   refine ca (c92 _ _) ?_
   refine sd ?_
   refine sd ?_
   refine ca c90_ ?_
   refine sd ?_
   exact rfl
  ·rw [bne_t h1]
   refine call_of_vc (x:=jr73) (by kernel_rfl) rfl ?_
   refine ca c80_ ?_
   refine ca (c92 _ _) ?_
   refine ca (c92 _ _) ?_
   refine sd ?_
   refine sd ?_
   refine ca c90_ ?_
   refine sd ?_
   refine b_ne (fun t1=>?_) (fun t1=>?_)
   exact rfl
   (exfalso; omega)
 ·rw [bne_t h0] at c90_ ⊢
  refine call_of_vc (x:=jr73) (by kernel_rfl) rfl ?_
  refine ca c80_ ?_
  refine ca (c92 _ _) ?_
  refine ca (c92 _ _) ?_
  refine sd ?_
  refine sd ?_
  refine ca c90_ ?_
  refine sd ?_
  refine b_ne (fun t1=>?_) (fun t1=>?_)
  replace t1:¬ckS s=(0:Int):=t1
  exact rfl
  replace t1:ckS s=(0:Int):=t1
  (exfalso; omega)
theorem c72 (s:Sw) (hl:s.os.length≤1000000):CallDet Tryz.prog 72 [.d (.agg [.bool s.on,.bool s.rd,.slice 2 (ods s.os)])] (bif ckS s != 0 then [.agg [.bool false,.bool false,.slice 2 []],.int .i64 (ckS s)] else bif cfE s != 0 then [.agg [.bool false,.bool false,.slice 2 []],.int .i64 (cfE s)] else [.agg [.bool true,.bool false,.slice 2 []],.int .i64 0]):=by
 have c80_:=c80 s (by omega)
 have c90_:CallDet Tryz.prog 90 [.d (.slice 1 [.int .i64 (ckS s),.int .i64 (bif s.on then 22 else 0),.int .i64 (bif !s.rd then 29 else 0)])] [.int .i64 (bif ckS s != 0 then ckS s else cfE s)]:=by
  have h:=c90 [ckS s,bif s.on then 22 else 0,bif !s.rd then 29 else 0] (by simp)
  rw [first3c] at h; exact h
 by_cases h0:ckS s=0
 ·rw [h0] at c90_ ⊢
  have c90_:CallDet Tryz.prog 90 [.d (.slice 1 [.int .i64 0,.int .i64 (bif s.on then 22 else 0),.int .i64 (bif !s.rd then 29 else 0)])] [.int .i64 (cfE s)]:=c90_
  rw [h0] at c80_
  by_cases h1:cfE s=0
  ·rw [h1] at c90_ ⊢
   refine call_of_vc (x:=jr72) (by kernel_rfl) rfl ?_
   refine ca c80_ ?_
   refine ca (c92 _ _) ?_
   refine ca (c92 _ _) ?_
   refine sd ?_
   refine sd ?_
   refine ca c90_ ?_
   refine sd ?_
   exact rfl
  ·rw [bne_t h1]
   refine call_of_vc (x:=jr72) (by kernel_rfl) rfl ?_
   refine ca c80_ ?_
   refine ca (c92 _ _) ?_
   refine ca (c92 _ _) ?_
   refine sd ?_
   refine sd ?_
   refine ca c90_ ?_
   refine sd ?_
   refine b_ne (fun t1=>?_) (fun t1=>?_)
   exact rfl
   (exfalso; omega)
 ·rw [bne_t h0] at c90_ ⊢
  refine call_of_vc (x:=jr72) (by kernel_rfl) rfl ?_
  refine ca c80_ ?_
  refine ca (c92 _ _) ?_
  refine ca (c92 _ _) ?_
  refine sd ?_
  refine sd ?_
  refine ca c90_ ?_
  refine sd ?_
  refine b_ne (fun t1=>?_) (fun t1=>?_)
  replace t1:¬ckS s=(0:Int):=t1
  exact rfl
  replace t1:ckS s=(0:Int):=t1
  (exfalso; omega)
theorem c78 (s:Sw) (h:ckS s=0):CallDet Tryz.prog 78 [.d (.agg [.bool s.on,.bool s.rd,.slice 2 (ods s.os)])] (bif rlE s != 0 then [.agg [.bool false,.bool false,.slice 2 []],.int .i64 (rlE s)] else [.agg [.bool false,.bool true,.slice 2 []],.int .i64 0]):=by
 have c96_:CallDet Tryz.prog 96 [.d (.slice 1 [.int .i64 (bif s.on then 22 else 0),.int .i64 (bif s.rd then 9 else 0)])] [.int .i64 (rlE s)]:=c96 [bif s.on then 22 else 0,bif s.rd then 9 else 0] (by simp)
 by_cases h1:rlE s=0
 ·have hon : s.on = false := by
   have h2:=firstOf_zero h1 (bif s.on then 22 else 0) (by simp)
   cases e:s.on with
   | false=>rfl
   | true=>rw [e] at h2; cases h2
  have fin:resV [.agg [.bool s.on,.bool true,.slice 2 (ods s.os)],.int .i64 0]=resV [.agg [.bool false,.bool true,.slice 2 []],.int .i64 0]:=by rw [os_0 h hon,hon]; rfl
  rw [h1] at c96_ ⊢
  refine call_of_vc (x:=jr78) (by kernel_rfl) rfl ?_
  refine ca (c97 _ _) ?_
  refine ca (c97 _ _) ?_
  refine sd ?_
  refine sd ?_
  refine ca c96_ ?_
  refine sd ?_
  assumption
  all_goals exact fin
 ·rw [bne_t h1]
  refine call_of_vc (x:=jr78) (by kernel_rfl) rfl ?_
  refine ca (c97 _ _) ?_
  refine ca (c97 _ _) ?_
  refine sd ?_
  refine sd ?_
  refine ca c96_ ?_
  refine sd ?_
  refine b_ne (fun t1=>?_) (fun t1=>?_)
  exact rfl
  (exfalso; omega)
theorem c79 (s:Sw):CallDet Tryz.prog 79 [.d (.agg [.bool s.on,.bool s.rd,.slice 2 (ods s.os)])] (bif cfE s != 0 then [.agg [.bool false,.bool false,.slice 2 []],.int .i64 (cfE s)] else [.agg [.bool true,.bool false,.slice 2 []],.int .i64 0]):=by
 have c96_:CallDet Tryz.prog 96 [.d (.slice 1 [.int .i64 (bif s.on then 22 else 0),.int .i64 (bif !s.rd then 29 else 0)])] [.int .i64 (cfE s)]:=c96 [bif s.on then 22 else 0,bif !s.rd then 29 else 0] (by simp)
 by_cases h1:cfE s=0
 ·rw [h1] at c96_ ⊢
  refine call_of_vc (x:=jr79) (by kernel_rfl) rfl ?_
  refine ca (c97 _ _) ?_
  refine ca (c97 _ _) ?_
  refine sd ?_
  refine sd ?_
  refine ca c96_ ?_
  refine sd ?_
  exact rfl
 ·rw [bne_t h1]
  refine call_of_vc (x:=jr79) (by kernel_rfl) rfl ?_
  refine ca (c97 _ _) ?_
  refine ca (c97 _ _) ?_
  refine sd ?_
  refine sd ?_
  refine ca c96_ ?_
  refine sd ?_
  refine b_ne (fun t1=>?_) (fun t1=>?_)
  exact rfl
  (exfalso; omega)
end Vc
