import Derived.Test.YtifgdpnmgeffbaaGreatDoorG23
import Derived.Test.YtifgdpnmgeffbaaGreatDoorG24
import Derived.Test.YtifgdpnmgeffbaaGreatDoorG25
set_option linter.unusedSectionVars false
set_option linter.unusedVariables false
set_option linter.unusedSimpArgs false
set_option maxRecDepth 10000
set_option maxHeartbeats 4000000
namespace Vc
open Go Go.Proofs
@[irreducible] def seg86c:ACode:=(.post [0,1,2] [0,1,2]
 (.block 0
 (.keep [0,1,2,8,24,25,26] [0]
 (.loop
 (.post [0,1,2,8,24,25,26] [1,2]
 (.seq
 (.reg [] [⟨some 27,.cmp .lss (.tmp 26) (.tmp 25),none⟩])
 (.seq
 (.cond (.tmp 27)
 .skip
 (.exit 0))
 (.seq
 (.block 1
 (.seq
 (.reg [1] [⟨some 28,.ixa 2 (.tmp 24) (.tmp 26),none⟩,
 ⟨some 29,.ld true 2 (.tmp 28),none⟩,
 ⟨some 10,.alloc 1 [(.d (.str [])),(.d (.int .i64 0))],none⟩,
 ⟨none,.st 2 (.tmp 10) (.tmp 29),none⟩])
 (.seq
 (.seq
 (.regd [2] [⟨some 30,.fad 0 (.tmp 10),none⟩,
 ⟨some 31,.ld false 1 (.tmp 30),none⟩,
 ⟨some 32,.call 116 [(.tmp 31)],none⟩,
 ⟨some 33,.mov (.tmp 8),none⟩,
 ⟨some 34,.fad 0 (.tmp 10),none⟩,
 ⟨some 35,.ld false 1 (.tmp 34),none⟩,
 ⟨some 36,.lkp none (.bool false) false (.tmp 33) (.tmp 35),none⟩,
 ⟨some 37,.call 103 [(.tmp 36),(.cst (.d (.int .i64 9)))],none⟩,
 ⟨some 38,.fad 1 (.tmp 10),none⟩,
 ⟨some 39,.ld false 1 (.tmp 38),none⟩,
 ⟨some 40,.call 122 [(.tmp 39),(.cst (.d (.int .i64 0))),(.cst (.d (.int .i64 1000)))],none⟩,
 ⟨some 41,.bsl 2 32 1 3 [(.int .i64 0),(.int .i64 0),(.int .i64 0)] [(0,(.tmp 32)),(1,(.tmp 37)),(2,(.tmp 40))],none⟩,
 ⟨some 42,.call 99 [(.tmp 41)],none⟩,
 ⟨some 11,.mov (.tmp 42),none⟩] [(0,3),(1,3),(2,3),(0,4),(1,4),(2,4),(3,4),(0,5),(1,5),(2,5),(3,5),(0,6),(1,6),(2,6),(0,8),(1,8),(2,8),(3,8),(4,8),(5,8),(6,8),(7,8),(0,9),(1,9),(2,9),(3,9),(4,9),(5,9),(6,9),(7,9)])
 (.seq
 (.reg [] [⟨some 43,.mov (.tmp 11),none⟩,
 ⟨some 44,.cmp .neq (.tmp 43) (.cst (.d (.int .i64 0))),none⟩])
 (.cond (.tmp 44)
 (.seq
 (.reg [] [⟨some 45,.mov (.tmp 11),none⟩,
 ⟨some 6,.mov (.cst (.nils 1)),none⟩,
 ⟨some 7,.mov (.tmp 45),none⟩])
 .ret)
 .skip)))
 (.reg [] [⟨some 46,.mov (.tmp 8),none⟩,
 ⟨some 47,.fad 0 (.tmp 10),none⟩,
 ⟨some 48,.ld false 1 (.tmp 47),none⟩,
 ⟨none,.mpu none (.tmp 46) (.tmp 48) (.cst (.d (.bool true))),none⟩]))))
 (.reg [] [⟨some 49,.arith .add .i64 (.tmp 26) (.cst (.d (.int .i64 1))),none⟩,
 ⟨some 26,.mov (.tmp 49),none⟩])))))))))
@[irreducible] def seg86b:ACode:=(.post [1,2,13] [0,1,2,3,4,5,6]
 (.block 2
 (.asrow 6 226 4 13
 (.keep [1,2,13,59,60,61] [0,1,2,3]
 (.loop
 (.post [1,2,13,59,60,61] [4,5,6]
 (.seq
 (.reg [] [⟨some 62,.cmp .lss (.tmp 61) (.tmp 60),none⟩])
 (.seq
 (.cond (.tmp 62)
 .skip
 (.exit 2))
 (.seq
 (.block 3
 (.seq
 (.reg [4] [⟨some 63,.mov (.tmp 61),none⟩,
 ⟨some 64,.ixa 2 (.tmp 59) (.tmp 61),none⟩,
 ⟨some 65,.ld true 2 (.tmp 64),none⟩,
 ⟨some 15,.alloc 4 [(.d (.str [])),(.d (.int .i64 0))],none⟩,
 ⟨some 14,.mov (.tmp 63),none⟩,
 ⟨none,.st 2 (.tmp 15) (.tmp 65),none⟩])
 (.reg [5,6] [⟨some 66,.mov (.tmp 13),none⟩,
 ⟨some 67,.ld true 2 (.tmp 15),none⟩,
 ⟨some 68,.mov (.tmp 14),none⟩,
 ⟨some 69,.build [(.d (.str [])),(.d (.int .i64 0)),(.d (.int .i64 0)),(.d (.int .i64 0))] [(0,2,(.tmp 67)),(2,1,(.tmp 68)),(3,1,(.cst (.d (.int .i64 0))))],none⟩,
 ⟨some 70,.bsl 5 226 4 1 [(.agg [(.str []),(.int .i64 0),(.int .i64 0),(.int .i64 0)])] [(0,(.tmp 69))],none⟩,
 ⟨some 71,.app 6 226 4 40 (.tmp 66) (.tmp 70),none⟩,
 ⟨some 13,.mov (.tmp 71),none⟩])))
 (.reg [] [⟨some 72,.arith .add .i64 (.tmp 61) (.cst (.d (.int .i64 1))),none⟩,
 ⟨some 61,.mov (.tmp 72),none⟩]))))))))))
@[irreducible] def seg86r:ACode:=(.post [1,13,16,17,18,75,76,82,83] [8] (.regd [] [⟨some 112,.mov (.tmp 16),none⟩,
 ⟨some 113,.mov (.tmp 17),none⟩,
 ⟨some 114,.mov (.tmp 16),none⟩,
 ⟨some 115,.mov (.tmp 17),none⟩,
 ⟨some 116,.ixa 1 (.tmp 114) (.tmp 115),none⟩,
 ⟨some 117,.ld false 1 (.tmp 116),none⟩,
 ⟨some 118,.mov (.tmp 13),none⟩,
 ⟨some 119,.mov (.tmp 19),none⟩,
 ⟨some 120,.ixa 4 (.tmp 118) (.tmp 119),none⟩,
 ⟨some 121,.fad 2 (.tmp 120),none⟩,
 ⟨some 122,.ld false 1 (.tmp 121),none⟩,
 ⟨some 123,.bsl 8 3 1 1 [(.int .i64 0)] [(0,(.tmp 122))],none⟩,
 ⟨some 124,.app 9 3 1 8 (.tmp 117) (.tmp 123),none⟩,
 ⟨some 125,.ixa 1 (.tmp 112) (.tmp 113),none⟩,
 ⟨none,.st 1 (.tmp 125) (.tmp 124),none⟩] [(0,1),(0,2),(1,2),(0,3),(1,3),(2,3),(0,4),(1,4),(0,5),(1,5),(0,6),(1,6),(2,6),(3,6),(4,6),(5,6),(0,7),(1,7),(2,7),(3,7),(4,7),(5,7),(6,7),(0,8),(1,8),(2,8),(3,8),(4,8),(5,8),(0,9),(1,9),(2,9),(3,9),(4,9),(5,9),(0,10),(1,10),(2,10),(3,10),(4,10),(5,10),(0,11),(1,11),(2,11),(3,11),(4,11),(5,11),(0,12),(1,12)]))
@[irreducible] def seg86i (xr:ACode):ACode:=(.post [1,13,16,17,75,76] []
 (.block 6
 (.keep [1,13,16,17,18,75,76,82,83] []
 (.loop
 (.post [1,13,16,17,18,75,76,82,83] []
 (.seq
 (.reg [] [⟨some 84,.cmp .lss (.tmp 83) (.tmp 82),none⟩])
 (.seq
 (.cond (.tmp 84)
 .skip
 (.exit 6))
 (.seq
 (.block 7
 (.seq
 (.reg [] [⟨some 85,.mov (.tmp 83),none⟩,
 ⟨some 19,.mov (.tmp 85),none⟩])
 (.seq
 (.seq
 (.reg [] [⟨some 86,.mov (.tmp 18),none⟩,
 ⟨some 87,.mov (.tmp 13),none⟩,
 ⟨some 88,.mov (.tmp 19),none⟩,
 ⟨some 89,.ixa 4 (.tmp 87) (.tmp 88),none⟩,
 ⟨some 90,.fad 0 (.tmp 89),none⟩,
 ⟨some 91,.fad 1 (.tmp 90),none⟩,
 ⟨some 92,.ld false 1 (.tmp 91),none⟩,
 ⟨some 93,.arith .add .i64 (.tmp 86) (.tmp 92),none⟩,
 ⟨some 94,.mov (.tmp 1),none⟩,
 ⟨some 95,.cmp .gtr (.tmp 93) (.tmp 94),none⟩])
 (.cond (.tmp 95)
 (.exit 7)
 .skip))
 (.seq
 (.reg [] [⟨some 96,.mov (.tmp 18),none⟩,
 ⟨some 97,.mov (.tmp 13),none⟩,
 ⟨some 98,.mov (.tmp 19),none⟩,
 ⟨some 99,.ixa 4 (.tmp 97) (.tmp 98),none⟩,
 ⟨some 100,.fad 0 (.tmp 99),none⟩,
 ⟨some 101,.fad 1 (.tmp 100),none⟩,
 ⟨some 102,.ld false 1 (.tmp 101),none⟩,
 ⟨some 103,.arith .add .i64 (.tmp 96) (.tmp 102),none⟩,
 ⟨some 18,.mov (.tmp 103),none⟩])
 (.seq
 (.reg [] [⟨some 104,.mov (.tmp 13),none⟩,
 ⟨some 105,.mov (.tmp 19),none⟩,
 ⟨some 106,.ixa 4 (.tmp 104) (.tmp 105),none⟩,
 ⟨some 107,.fad 3 (.tmp 106),none⟩,
 ⟨some 108,.ld false 1 (.tmp 107),none⟩,
 ⟨some 109,.arith .add .i64 (.tmp 108) (.cst (.d (.int .i64 1))),none⟩,
 ⟨some 110,.ixa 4 (.tmp 104) (.tmp 105),none⟩,
 ⟨some 111,.fad 3 (.tmp 110),none⟩,
 ⟨none,.st 1 (.tmp 111) (.tmp 109),none⟩])
 (.keep [1,13,16,17,18,19,75,76,82,83] [] xr))))))
 (.reg [] [⟨some 126,.arith .add .i64 (.tmp 83) (.cst (.d (.int .i64 1))),none⟩,
 ⟨some 83,.mov (.tmp 126),none⟩])))))))))
@[irreducible] def seg86t:ACode:=(.post [1,13,16,75,76,129] [] (.reg [] [⟨some 127,.mov (.tmp 16),none⟩,
 ⟨some 128,.mov (.tmp 17),none⟩,
 ⟨some 129,.ixa 1 (.tmp 127) (.tmp 128),none⟩,
 ⟨some 130,.ld false 1 (.tmp 129),none⟩,
 ⟨some 131,.calli 119 [(.tmp 130)],none⟩]))
@[irreducible] def seg86u:ACode:=(.post [1,13,16,75,76] [9] (.asdat 129 (.reg [] [⟨some 132,.arith .add .i64 (.tmp 76) (.cst (.d (.int .i64 1))),none⟩,
 ⟨some 76,.mov (.tmp 132),none⟩])))
@[irreducible] def seg86s (xi xt xu:ACode):ACode:=(.seq
 (.block 5
 (.seq
 (.reg [] [⟨some 78,.mov (.tmp 76),none⟩,
 ⟨some 17,.mov (.tmp 78),none⟩])
 (.seq
 (.reg [] [⟨some 79,.mov (.tmp 13),none⟩,
 ⟨some 80,.calli 153 [(.tmp 79),(.cst (.d (.fn (.func 154) [])))],none⟩])
 (.seq
 (.reg [] [⟨some 18,.mov (.cst (.d (.int .i64 0))),none⟩])
 (.seq
 (.seq
 (.reg [] [⟨some 81,.mov (.tmp 13),none⟩,
 ⟨some 82,.len (.tmp 81),none⟩,
 ⟨some 83,.mov (.cst (.d (.int .i64 0))),none⟩])
 (.keep [1,13,16,17,18,75,76,82,83] [] xi))
 (.keep [1,13,16,17,75,76] [] xt))))))
 (.keep [1,13,16,75,76,129] [] xu))
@[irreducible] def seg86o (xs:ACode):ACode:=(.post [16] []
 (.block 4
 (.keep [1,13,16,75,76] []
 (.loop
 (.post [1,13,16,75,76] []
 (.seq
 (.reg [] [⟨some 77,.cmp .lss (.tmp 76) (.tmp 75),none⟩])
 (.seq
 (.cond (.tmp 77)
 .skip
 (.exit 4))
 (.keep [1,13,16,75,76] [] xs))))))))
def jr86 (m:Nat):AFun:=⟨134,10,[.tmp 6,.tmp 7],
 (.seq
 (.reg [] [⟨some 6,.mov (.cst (.nils 1)),none⟩,
  ⟨some 7,.mov (.cst (.d (.int .i64 0))),none⟩])
 (.seq
  (.seq
  (.reg [] [⟨some 20,.mov (.tmp 0),none⟩,
   ⟨some 21,.len (.tmp 20),none⟩,
   ⟨some 22,.cmp .gtr (.tmp 21) (.cst (.d (.int .i64 8))),none⟩])
  (.cond (.tmp 22)
   (.seq
   (.reg [] [⟨some 6,.mov (.cst (.nils 1)),none⟩,
    ⟨some 7,.mov (.cst (.d (.int .i64 5))),none⟩])
   .ret)
   .skip))
  (.seq
  (.reg [0] [⟨some 23,.mkm 0,none⟩,
   ⟨some 8,.mov (.tmp 23),none⟩])
  (.seq
   (.seq
   (.reg [] [⟨some 24,.mov (.tmp 0),none⟩,
    ⟨some 25,.len (.tmp 24),none⟩,
    ⟨some 26,.mov (.cst (.d (.int .i64 0))),none⟩])
   (.keep [0,1,2,8,24,25,26] [1,2] seg86c))
   (.seq
   (.seq
    (.reg [3] [⟨some 50,.mov (.tmp 1),none⟩,
     ⟨some 51,.call 122 [(.tmp 50),(.cst (.d (.int .i64 0))),(.cst (.d (.int .i64 8000)))],none⟩,
     ⟨some 52,.mov (.tmp 2),none⟩,
     ⟨some 53,.call 122 [(.tmp 52),(.cst (.d (.int .i64 0))),(.cst (.d (.int .i64 64)))],none⟩,
     ⟨some 54,.bsl 3 32 1 2 [(.int .i64 0),(.int .i64 0)] [(0,(.tmp 51)),(1,(.tmp 53))],none⟩,
     ⟨some 55,.call 99 [(.tmp 54)],none⟩,
     ⟨some 12,.mov (.tmp 55),none⟩])
    (.seq
    (.reg [] [⟨some 56,.mov (.tmp 12),none⟩,
     ⟨some 57,.cmp .neq (.tmp 56) (.cst (.d (.int .i64 0))),none⟩])
    (.cond (.tmp 57)
     (.seq
     (.reg [] [⟨some 58,.mov (.tmp 12),none⟩,
      ⟨some 6,.mov (.cst (.nils 1)),none⟩,
      ⟨some 7,.mov (.tmp 58),none⟩])
     .ret)
     .skip)))
   (.seq
    (.reg [] [⟨some 13,.mov (.cst (.nils 4)),none⟩])
    (.seq
    (.seq
     (.reg [] [⟨some 59,.mov (.tmp 0),none⟩,
      ⟨some 60,.len (.tmp 59),none⟩,
      ⟨some 61,.mov (.cst (.d (.int .i64 0))),none⟩])
     (.keep [1,2,13,59,60,61] [0,1,2,3] seg86b))
    (.seq
     (.reg [0,1,2,3,4,5,7] [⟨some 73,.mov (.tmp 2),none⟩,
      ⟨some 74,.mkb 7 28 (m+1) 24 (.nils 1) (.tmp 73),none⟩,
      ⟨some 16,.mov (.tmp 74),none⟩])
     (.seq
     (.seq
      (.reg [] [⟨some 75,.mov (.tmp 2),none⟩,
       ⟨some 76,.mov (.cst (.d (.int .i64 0))),none⟩])
      (.keep [1,13,16,75,76] [] (seg86o (seg86s (seg86i seg86r) seg86t seg86u))))
     (.asdat 16 (.seq
      (.reg [] [⟨some 133,.mov (.tmp 16),none⟩,
       ⟨some 6,.mov (.tmp 133),none⟩,
       ⟨some 7,.mov (.cst (.d (.int .i64 0))),none⟩])
      .ret)))))))))))⟩
def jr86z:AFun:=⟨134,10,[.tmp 6,.tmp 7],
 (.seq
 (.reg [] [⟨some 6,.mov (.cst (.nils 1)),none⟩,
  ⟨some 7,.mov (.cst (.d (.int .i64 0))),none⟩])
 (.seq
  (.seq
  (.reg [] [⟨some 20,.mov (.tmp 0),none⟩,
   ⟨some 21,.len (.tmp 20),none⟩,
   ⟨some 22,.cmp .gtr (.tmp 21) (.cst (.d (.int .i64 8))),none⟩])
  (.cond (.tmp 22)
   (.seq
   (.reg [] [⟨some 6,.mov (.cst (.nils 1)),none⟩,
    ⟨some 7,.mov (.cst (.d (.int .i64 5))),none⟩])
   .ret)
   .skip))
  (.seq
  (.reg [0] [⟨some 23,.mkm 0,none⟩,
   ⟨some 8,.mov (.tmp 23),none⟩])
  (.seq
   (.seq
   (.reg [] [⟨some 24,.mov (.tmp 0),none⟩,
    ⟨some 25,.len (.tmp 24),none⟩,
    ⟨some 26,.mov (.cst (.d (.int .i64 0))),none⟩])
   (.keep [0,1,2,8,24,25,26] [1,2] seg86c))
   (.seq
   (.seq
    (.reg [3] [⟨some 50,.mov (.tmp 1),none⟩,
     ⟨some 51,.call 122 [(.tmp 50),(.cst (.d (.int .i64 0))),(.cst (.d (.int .i64 8000)))],none⟩,
     ⟨some 52,.mov (.tmp 2),none⟩,
     ⟨some 53,.call 122 [(.tmp 52),(.cst (.d (.int .i64 0))),(.cst (.d (.int .i64 64)))],none⟩,
     ⟨some 54,.bsl 3 32 1 2 [(.int .i64 0),(.int .i64 0)] [(0,(.tmp 51)),(1,(.tmp 53))],none⟩,
     ⟨some 55,.call 99 [(.tmp 54)],none⟩,
     ⟨some 12,.mov (.tmp 55),none⟩])
    (.seq
    (.reg [] [⟨some 56,.mov (.tmp 12),none⟩,
     ⟨some 57,.cmp .neq (.tmp 56) (.cst (.d (.int .i64 0))),none⟩])
    (.cond (.tmp 57)
     (.seq
     (.reg [] [⟨some 58,.mov (.tmp 12),none⟩,
      ⟨some 6,.mov (.cst (.nils 1)),none⟩,
      ⟨some 7,.mov (.tmp 58),none⟩])
     .ret)
     .skip)))
   (.seq
    (.reg [] [⟨some 13,.mov (.cst (.nils 4)),none⟩])
    (.seq
    (.seq
     (.reg [] [⟨some 59,.mov (.tmp 0),none⟩,
      ⟨some 60,.len (.tmp 59),none⟩,
      ⟨some 61,.mov (.cst (.d (.int .i64 0))),none⟩])
     (.keep [1,2,13,59,60,61] [0,1,2,3] seg86b))
    (.seq
     (.reg [7] [⟨some 73,.mov (.tmp 2),none⟩,
      ⟨some 74,.msl 7 28 1 24 (.slice 1 []) (.tmp 73),none⟩,
      ⟨some 16,.mov (.tmp 74),none⟩])
     (.seq
     (.seq
      (.reg [] [⟨some 75,.mov (.tmp 2),none⟩,
       ⟨some 76,.mov (.cst (.d (.int .i64 0))),none⟩])
      (.post [16] [0,1,2,3,4,5,6,7,8,9]
      (.block 4
       (.keep [1,13,16,75,76] [0,1,2,3,4,5,6,7]
       (.loop
        (.post [1,13,16,75,76] [8,9]
        (.seq
         (.reg [] [⟨some 77,.cmp .lss (.tmp 76) (.tmp 75),none⟩])
         (.seq
         (.cond (.tmp 77)
          .skip
          (.exit 4))
         (.seq
          (.block 5
          (.seq
           (.reg [] [⟨some 78,.mov (.tmp 76),none⟩,
            ⟨some 17,.mov (.tmp 78),none⟩])
           (.seq
           (.reg [] [⟨some 79,.mov (.tmp 13),none⟩,
            ⟨some 80,.call 153 [(.tmp 79),(.cst (.d (.fn (.func 154) [])))],none⟩])
           (.seq
            (.reg [] [⟨some 18,.mov (.cst (.d (.int .i64 0))),none⟩])
            (.seq
            (.seq
             (.reg [] [⟨some 81,.mov (.tmp 13),none⟩,
              ⟨some 82,.len (.tmp 81),none⟩,
              ⟨some 83,.mov (.cst (.d (.int .i64 0))),none⟩])
             (.post [1,13,16,17,75,76] [0,1,2,3,4,5,6,7,8,9]
             (.block 6
              (.keep [1,13,16,17,18,75,76,82,83] [0,1,2,3,4,5,6,7]
              (.loop
               (.post [1,13,16,17,18,75,76,82,83] [8,9]
               (.seq
                (.reg [] [⟨some 84,.cmp .lss (.tmp 83) (.tmp 82),none⟩])
                (.seq
                (.cond (.tmp 84)
                 .skip
                 (.exit 6))
                (.seq
                 (.block 7
                 (.seq
                  (.reg [] [⟨some 85,.mov (.tmp 83),none⟩,
                   ⟨some 19,.mov (.tmp 85),none⟩])
                  (.seq
                  (.seq
                   (.reg [] [⟨some 86,.mov (.tmp 18),none⟩,
                    ⟨some 87,.mov (.tmp 13),none⟩,
                    ⟨some 88,.mov (.tmp 19),none⟩,
                    ⟨some 89,.ixa 4 (.tmp 87) (.tmp 88),none⟩,
                    ⟨some 90,.fad 0 (.tmp 89),none⟩,
                    ⟨some 91,.fad 1 (.tmp 90),none⟩,
                    ⟨some 92,.ld false 1 (.tmp 91),none⟩,
                    ⟨some 93,.arith .add .i64 (.tmp 86) (.tmp 92),none⟩,
                    ⟨some 94,.mov (.tmp 1),none⟩,
                    ⟨some 95,.cmp .gtr (.tmp 93) (.tmp 94),none⟩])
                   (.cond (.tmp 95)
                   (.exit 7)
                   .skip))
                  (.seq
                   (.reg [] [⟨some 96,.mov (.tmp 18),none⟩,
                    ⟨some 97,.mov (.tmp 13),none⟩,
                    ⟨some 98,.mov (.tmp 19),none⟩,
                    ⟨some 99,.ixa 4 (.tmp 97) (.tmp 98),none⟩,
                    ⟨some 100,.fad 0 (.tmp 99),none⟩,
                    ⟨some 101,.fad 1 (.tmp 100),none⟩,
                    ⟨some 102,.ld false 1 (.tmp 101),none⟩,
                    ⟨some 103,.arith .add .i64 (.tmp 96) (.tmp 102),none⟩,
                    ⟨some 18,.mov (.tmp 103),none⟩])
                   (.seq
                   (.reg [] [⟨some 104,.mov (.tmp 13),none⟩,
                    ⟨some 105,.mov (.tmp 19),none⟩,
                    ⟨some 106,.ixa 4 (.tmp 104) (.tmp 105),none⟩,
                    ⟨some 107,.fad 3 (.tmp 106),none⟩,
                    ⟨some 108,.ld false 1 (.tmp 107),none⟩,
                    ⟨some 109,.arith .add .i64 (.tmp 108) (.cst (.d (.int .i64 1))),none⟩,
                    ⟨some 110,.ixa 4 (.tmp 104) (.tmp 105),none⟩,
                    ⟨some 111,.fad 3 (.tmp 110),none⟩,
                    ⟨none,.st 1 (.tmp 111) (.tmp 109),none⟩])
                   (.regd [8,9] [⟨some 112,.mov (.tmp 16),none⟩,
                    ⟨some 113,.mov (.tmp 17),none⟩,
                    ⟨some 114,.mov (.tmp 16),none⟩,
                    ⟨some 115,.mov (.tmp 17),none⟩,
                    ⟨some 116,.ixa 1 (.tmp 114) (.tmp 115),none⟩,
                    ⟨some 117,.ld false 1 (.tmp 116),none⟩,
                    ⟨some 118,.mov (.tmp 13),none⟩,
                    ⟨some 119,.mov (.tmp 19),none⟩,
                    ⟨some 120,.ixa 4 (.tmp 118) (.tmp 119),none⟩,
                    ⟨some 121,.fad 2 (.tmp 120),none⟩,
                    ⟨some 122,.ld false 1 (.tmp 121),none⟩,
                    ⟨some 123,.bsl 8 3 1 1 [(.int .i64 0)] [(0,(.tmp 122))],none⟩,
                    ⟨some 124,.app 9 3 1 8 (.tmp 117) (.tmp 123),none⟩,
                    ⟨some 125,.ixa 1 (.tmp 112) (.tmp 113),none⟩,
                    ⟨none,.st 1 (.tmp 125) (.tmp 124),none⟩] [(0,1),(0,2),(1,2),(0,3),(1,3),(2,3),(0,4),(1,4),(0,5),(1,5),(0,6),(1,6),(2,6),(3,6),(4,6),(5,6),(0,7),(1,7),(2,7),(3,7),(4,7),(5,7),(6,7),(0,8),(1,8),(2,8),(3,8),(4,8),(5,8),(0,9),(1,9),(2,9),(3,9),(4,9),(5,9),(0,10),(1,10),(2,10),(3,10),(4,10),(5,10),(0,11),(1,11),(2,11),(3,11),(4,11),(5,11),(0,12),(1,12)]))))))
                 (.reg [] [⟨some 126,.arith .add .i64 (.tmp 83) (.cst (.d (.int .i64 1))),none⟩,
                  ⟨some 83,.mov (.tmp 126),none⟩]))))))))))
            (.reg [] [⟨some 127,.mov (.tmp 16),none⟩,
             ⟨some 128,.mov (.tmp 17),none⟩,
             ⟨some 129,.ixa 1 (.tmp 127) (.tmp 128),none⟩,
             ⟨some 130,.ld false 1 (.tmp 129),none⟩,
             ⟨some 131,.call 119 [(.tmp 130)],none⟩]))))))
          (.reg [] [⟨some 132,.arith .add .i64 (.tmp 76) (.cst (.d (.int .i64 1))),none⟩,
           ⟨some 76,.mov (.tmp 132),none⟩]))))))))))
     (.asdat 16 (.seq
      (.reg [] [⟨some 133,.mov (.tmp 16),none⟩,
       ⟨some 6,.mov (.tmp 133),none⟩,
       ⟨some 7,.mov (.cst (.d (.int .i64 0))),none⟩])
      .ret)))))))))))⟩
theorem findM_names (s:List UInt8):∀ l:List (List UInt8),findM (.str s) (l.map fun n=>(.str n,.bool true))=if l.contains s then some (.bool true) else none
 | []=>rfl
 | n::r=>by
  show (match dEq (.str s) (.str n) with | true=>some (Data.bool true) | false=>findM (.str s) (r.map fun n=>(.str n,.bool true)))=_
  rw [List.contains_cons,findM_names s r]
  show (match (s==n) with | true=>_ | false=>_)=_
  cases (s==n) <;> simp
theorem putM_names (s:List UInt8):∀ l:List (List UInt8),l.contains s=false→putM (.str s) (.bool true) (l.map fun n=>(.str n,.bool true))=(l++[s]).map fun n=>(.str n,.bool true)
 | [],_=>rfl
 | n::r,h=>by
  rw [List.contains_cons,Bool.or_eq_false_iff] at h
  show (match (s==n) with | true=>_ | false=>_)=_
  rw [h.1]
  show (Data.str n,Data.bool true)::putM (.str s) (.bool true) (r.map fun n=>(.str n,.bool true))=_
  rw [putM_names s r h.2]; rfl
theorem keys_names:∀ l:List (List UInt8),keysOk none (l.map fun n=>(.str n,.bool true))=true
 | []=>rfl
 | n::r=>keys_names r
theorem gGo_snoc1 (lim:Int) (r:Rn):∀ (l:List Rn) (p:Int),(gGo lim (l++[r]) p).1=(gGo lim l p).1++[bif decide (lim < gP lim l p+r.pw) then r else { r with tn:=r.tn+1 }]
 | [],p=>by
  show (gGo lim [r] p).1=[]++_
  rw [gGo,gP]
  cases decide (lim < p+r.pw) <;> rfl
 | x::l,p=>by
  show (gGo lim (x::(l++[r])) p).1=_
  rw [gGo,gP,gGo]
  cases decide (lim < p+x.pw)
  ·show _::(gGo lim (l++[r]) (p+x.pw)).1=_::((gGo lim l (p+x.pw)).1++_)
   rw [gGo_snoc1 lim r l (p+x.pw)]; rfl
  ·show _::(gGo lim (l++[r]) p).1=_::((gGo lim l p).1++_)
   rw [gGo_snoc1 lim r l p]; rfl
theorem gGo_len1 (lim:Int):∀ (O:List Rn) (p:Int),(gGo lim O p).1.length=O.length
 | [],_=>rfl
 | r::O,p=>by
  rw [gGo]
  cases decide (lim < p+r.pw)
  ·exact congrArg (·+1) (gGo_len1 lim O _)
  ·exact congrArg (·+1) (gGo_len1 lim O _)
def cz (R:List Int):AVal:=match R with | []=>.nils 1 | _::_=>.sl 9 R.length
def oz (R:List Int):AObj:=match R with | []=>.none | _::_=>.row 3 1 (ints R) false
theorem cz_ne:∀ {R:List Int},R≠[]→cz R=.sl 9 R.length∧oz R=.row 3 1 (ints R) false
 | [],h=>absurd rfl h
 | _::_,_=>⟨rfl,rfl⟩
theorem v86r {N:Nat} {lim n w x y z:Int} {b:List UInt8} {M m j:Nat} {R:List Data} {c1 c2:List AVal} {U:List Int} (hM:R.length=M) (hm:c1.length < m) (hj:j < M) (hU:U.length≤8) (hd:R[((j:Nat):Int).toNat]?=some (Data.agg [.str b,.int .i64 x,.int .i64 y,.int .i64 z])) (h81:noRefVs 8 c1=true) (h82:noRefVs 8 c2=true) {Q:AExit→St→Prop} (hQ:Q .normal ⟨[(1,.d (.int .i64 lim)),(13,.sl 6 M),(16,.bv 7 0 m),(17,.d (.int .i64 (((c1.length:Nat):Int)))),(18,.d (.int .i64 (w))),(75,.d (.int .i64 n)),(76,.d (.int .i64 (((c1.length:Nat):Int)))),(82,.d (.int .i64 (M:Int))),(83,.d (.int .i64 (j:Nat)))],[.none,.none,.none,.none,.none,.none,.row 226 4 R false,.box (c1++.sl 9 (ints U++[Data.int .i64 y]).length::c2),.none,.row 3 1 (ints U++[Data.int .i64 y]) false]⟩):vc Tryz.prog N seg86r ⟨[(1,.d (.int .i64 lim)),(13,.sl 6 M),(16,.bv 7 0 m),(17,.d (.int .i64 (((c1.length:Nat):Int)))),(18,.d (.int .i64 (w))),(19,.d (.int .i64 (j:Nat))),(75,.d (.int .i64 n)),(76,.d (.int .i64 (((c1.length:Nat):Int)))),(82,.d (.int .i64 (M:Int))),(83,.d (.int .i64 (j:Nat)))],[.none,.none,.none,.none,.none,.none,.row 226 4 R false,.box (c1++cz U::c2),.none,oz U]⟩ Q:=by
 unfold seg86r
 have hlU:(ints U).length=U.length:=List.length_map _
 have hmI:(((c1.length:Nat):Int)) < (m:Int):=by omega
 have fin:∀ k,noRefVs 8 (c1++.sl 9 k::c2)=true:=fun k=>noRef_mid rfl h82 h81
 by_cases hUn:U=[]
 ·subst hUn
  show vc _ _ _ ⟨[(1,.d (.int .i64 (lim))),(13,.sl 6 M),(16,.bv 7 0 m),(17,.d (.int .i64 ((((c1.length:Nat):Int))))),(18,.d (.int .i64 (w))),(19,.d (.int .i64 ((j:Nat)))),(75,.d (.int .i64 (n))),(76,.d (.int .i64 ((((c1.length:Nat):Int))))),(82,.d (.int .i64 ((M:Int)))),(83,.d (.int .i64 ((j:Nat))))],[.none,.none,.none,.none,.none,.none,.row 226 4 R false,.box (c1++.nils 1::c2),.none,.none]⟩ _
  refine vc_post_of ?_
  refine vc_regd_of ?_
  refine vops_step (v:=.bv 7 0 m) ⟨[(1,.d (.int .i64 (lim))),(13,.sl 6 M),(16,.bv 7 0 m),(17,.d (.int .i64 ((((c1.length:Nat):Int))))),(18,.d (.int .i64 (w))),(19,.d (.int .i64 ((j:Nat)))),(75,.d (.int .i64 (n))),(76,.d (.int .i64 ((((c1.length:Nat):Int))))),(82,.d (.int .i64 ((M:Int)))),(83,.d (.int .i64 ((j:Nat)))),(112,.bv 7 0 m)],[.none,.none,.none,.none,.none,.none,.row 226 4 R false,.box (c1++.nils 1::c2),.none,.none]⟩ ⟨rfl,rfl,rfl⟩ rfl ?_
  refine vops_step (v:=.d (.int .i64 ((((c1.length:Nat):Int))))) ⟨[(1,.d (.int .i64 (lim))),(13,.sl 6 M),(16,.bv 7 0 m),(17,.d (.int .i64 ((((c1.length:Nat):Int))))),(18,.d (.int .i64 (w))),(19,.d (.int .i64 ((j:Nat)))),(75,.d (.int .i64 (n))),(76,.d (.int .i64 ((((c1.length:Nat):Int))))),(82,.d (.int .i64 ((M:Int)))),(83,.d (.int .i64 ((j:Nat)))),(112,.bv 7 0 m),(113,.d (.int .i64 ((((c1.length:Nat):Int)))))],[.none,.none,.none,.none,.none,.none,.row 226 4 R false,.box (c1++.nils 1::c2),.none,.none]⟩ ⟨rfl,rfl,rfl⟩ rfl ?_
  refine vops_step (v:=.bv 7 0 m) ⟨[(1,.d (.int .i64 (lim))),(13,.sl 6 M),(16,.bv 7 0 m),(17,.d (.int .i64 ((((c1.length:Nat):Int))))),(18,.d (.int .i64 (w))),(19,.d (.int .i64 ((j:Nat)))),(75,.d (.int .i64 (n))),(76,.d (.int .i64 ((((c1.length:Nat):Int))))),(82,.d (.int .i64 ((M:Int)))),(83,.d (.int .i64 ((j:Nat)))),(112,.bv 7 0 m),(113,.d (.int .i64 ((((c1.length:Nat):Int))))),(114,.bv 7 0 m)],[.none,.none,.none,.none,.none,.none,.row 226 4 R false,.box (c1++.nils 1::c2),.none,.none]⟩ ⟨rfl,rfl,rfl⟩ rfl ?_
  refine vops_step (v:=.d (.int .i64 ((((c1.length:Nat):Int))))) ⟨[(1,.d (.int .i64 (lim))),(13,.sl 6 M),(16,.bv 7 0 m),(17,.d (.int .i64 ((((c1.length:Nat):Int))))),(18,.d (.int .i64 (w))),(19,.d (.int .i64 ((j:Nat)))),(75,.d (.int .i64 (n))),(76,.d (.int .i64 ((((c1.length:Nat):Int))))),(82,.d (.int .i64 ((M:Int)))),(83,.d (.int .i64 ((j:Nat)))),(112,.bv 7 0 m),(113,.d (.int .i64 ((((c1.length:Nat):Int))))),(114,.bv 7 0 m),(115,.d (.int .i64 ((((c1.length:Nat):Int)))))],[.none,.none,.none,.none,.none,.none,.row 226 4 R false,.box (c1++.nils 1::c2),.none,.none]⟩ ⟨rfl,rfl,rfl⟩ rfl ?_
  refine vops_step (v:=.ptr 7 (0+((c1.length:Nat):Int).toNat * 1)) ⟨[(1,.d (.int .i64 (lim))),(13,.sl 6 M),(16,.bv 7 0 m),(17,.d (.int .i64 ((((c1.length:Nat):Int))))),(18,.d (.int .i64 (w))),(19,.d (.int .i64 ((j:Nat)))),(75,.d (.int .i64 (n))),(76,.d (.int .i64 ((((c1.length:Nat):Int))))),(82,.d (.int .i64 ((M:Int)))),(83,.d (.int .i64 ((j:Nat)))),(112,.bv 7 0 m),(113,.d (.int .i64 ((((c1.length:Nat):Int))))),(114,.bv 7 0 m),(115,.d (.int .i64 ((((c1.length:Nat):Int))))),(116,.ptr 7 (0+((c1.length:Nat):Int).toNat * 1))],[.none,.none,.none,.none,.none,.none,.row 226 4 R false,.box (c1++.nils 1::c2),.none,.none]⟩ ⟨⟨Int.natCast_nonneg _,by omega⟩,rfl,rfl,rfl⟩ rfl ?_
  refine vops_step (v:=.nils 1) ⟨[(1,.d (.int .i64 (lim))),(13,.sl 6 M),(16,.bv 7 0 m),(17,.d (.int .i64 ((((c1.length:Nat):Int))))),(18,.d (.int .i64 (w))),(19,.d (.int .i64 ((j:Nat)))),(75,.d (.int .i64 (n))),(76,.d (.int .i64 ((((c1.length:Nat):Int))))),(82,.d (.int .i64 ((M:Int)))),(83,.d (.int .i64 ((j:Nat)))),(112,.bv 7 0 m),(113,.d (.int .i64 ((((c1.length:Nat):Int))))),(114,.bv 7 0 m),(115,.d (.int .i64 ((((c1.length:Nat):Int))))),(116,.ptr 7 (0+((c1.length:Nat):Int).toNat * 1)),(117,.nils 1)],[.none,.none,.none,.none,.none,.none,.row 226 4 R false,.box (c1++.nils 1::c2),.none,.none]⟩ (eld_mid rfl rfl) rfl ?_
  refine vops_step (v:=.sl 6 M) ⟨[(1,.d (.int .i64 (lim))),(13,.sl 6 M),(16,.bv 7 0 m),(17,.d (.int .i64 ((((c1.length:Nat):Int))))),(18,.d (.int .i64 (w))),(19,.d (.int .i64 ((j:Nat)))),(75,.d (.int .i64 (n))),(76,.d (.int .i64 ((((c1.length:Nat):Int))))),(82,.d (.int .i64 ((M:Int)))),(83,.d (.int .i64 ((j:Nat)))),(112,.bv 7 0 m),(113,.d (.int .i64 ((((c1.length:Nat):Int))))),(114,.bv 7 0 m),(115,.d (.int .i64 ((((c1.length:Nat):Int))))),(116,.ptr 7 (0+((c1.length:Nat):Int).toNat * 1)),(117,.nils 1),(118,.sl 6 M)],[.none,.none,.none,.none,.none,.none,.row 226 4 R false,.box (c1++.nils 1::c2),.none,.none]⟩ ⟨rfl,rfl,rfl⟩ rfl ?_
  refine vops_step (v:=.d (.int .i64 ((j:Nat)))) ⟨[(1,.d (.int .i64 (lim))),(13,.sl 6 M),(16,.bv 7 0 m),(17,.d (.int .i64 ((((c1.length:Nat):Int))))),(18,.d (.int .i64 (w))),(19,.d (.int .i64 ((j:Nat)))),(75,.d (.int .i64 (n))),(76,.d (.int .i64 ((((c1.length:Nat):Int))))),(82,.d (.int .i64 ((M:Int)))),(83,.d (.int .i64 ((j:Nat)))),(112,.bv 7 0 m),(113,.d (.int .i64 ((((c1.length:Nat):Int))))),(114,.bv 7 0 m),(115,.d (.int .i64 ((((c1.length:Nat):Int))))),(116,.ptr 7 (0+((c1.length:Nat):Int).toNat * 1)),(117,.nils 1),(118,.sl 6 M),(119,.d (.int .i64 ((j:Nat))))],[.none,.none,.none,.none,.none,.none,.row 226 4 R false,.box (c1++.nils 1::c2),.none,.none]⟩ ⟨rfl,rfl,rfl⟩ rfl ?_
  refine vops_step (v:=.ep 6 M ((j:Nat):Int).toNat 0) ⟨[(1,.d (.int .i64 (lim))),(13,.sl 6 M),(16,.bv 7 0 m),(17,.d (.int .i64 ((((c1.length:Nat):Int))))),(18,.d (.int .i64 (w))),(19,.d (.int .i64 ((j:Nat)))),(75,.d (.int .i64 (n))),(76,.d (.int .i64 ((((c1.length:Nat):Int))))),(82,.d (.int .i64 ((M:Int)))),(83,.d (.int .i64 ((j:Nat)))),(112,.bv 7 0 m),(113,.d (.int .i64 ((((c1.length:Nat):Int))))),(114,.bv 7 0 m),(115,.d (.int .i64 ((((c1.length:Nat):Int))))),(116,.ptr 7 (0+((c1.length:Nat):Int).toNat * 1)),(117,.nils 1),(118,.sl 6 M),(119,.d (.int .i64 ((j:Nat)))),(120,.ep 6 M ((j:Nat):Int).toNat 0)],[.none,.none,.none,.none,.none,.none,.row 226 4 R false,.box (c1++.nils 1::c2),.none,.none]⟩ ⟨_,[],rfl,rfl,⟨rfl,hM,Int.natCast_nonneg _,by omega⟩,rfl,rfl,rfl⟩ rfl ?_
  refine vops_step (v:=.ep 6 M ((j:Nat):Int).toNat (0+2)) ⟨[(1,.d (.int .i64 (lim))),(13,.sl 6 M),(16,.bv 7 0 m),(17,.d (.int .i64 ((((c1.length:Nat):Int))))),(18,.d (.int .i64 (w))),(19,.d (.int .i64 ((j:Nat)))),(75,.d (.int .i64 (n))),(76,.d (.int .i64 ((((c1.length:Nat):Int))))),(82,.d (.int .i64 ((M:Int)))),(83,.d (.int .i64 ((j:Nat)))),(112,.bv 7 0 m),(113,.d (.int .i64 ((((c1.length:Nat):Int))))),(114,.bv 7 0 m),(115,.d (.int .i64 ((((c1.length:Nat):Int))))),(116,.ptr 7 (0+((c1.length:Nat):Int).toNat * 1)),(117,.nils 1),(118,.sl 6 M),(119,.d (.int .i64 ((j:Nat)))),(120,.ep 6 M ((j:Nat):Int).toNat 0),(121,.ep 6 M ((j:Nat):Int).toNat (0+2))],[.none,.none,.none,.none,.none,.none,.row 226 4 R false,.box (c1++.nils 1::c2),.none,.none]⟩ ⟨_,[],rfl,rfl,hM,rfl,rfl,rfl⟩ rfl ?_
  refine vops_step (v:=.d (.int .i64 (y))) ⟨[(1,.d (.int .i64 (lim))),(13,.sl 6 M),(16,.bv 7 0 m),(17,.d (.int .i64 ((((c1.length:Nat):Int))))),(18,.d (.int .i64 (w))),(19,.d (.int .i64 ((j:Nat)))),(75,.d (.int .i64 (n))),(76,.d (.int .i64 ((((c1.length:Nat):Int))))),(82,.d (.int .i64 ((M:Int)))),(83,.d (.int .i64 ((j:Nat)))),(112,.bv 7 0 m),(113,.d (.int .i64 ((((c1.length:Nat):Int))))),(114,.bv 7 0 m),(115,.d (.int .i64 ((((c1.length:Nat):Int))))),(116,.ptr 7 (0+((c1.length:Nat):Int).toNat * 1)),(117,.nils 1),(118,.sl 6 M),(119,.d (.int .i64 ((j:Nat)))),(120,.ep 6 M ((j:Nat):Int).toNat 0),(121,.ep 6 M ((j:Nat):Int).toNat (0+2)),(122,.d (.int .i64 (y)))],[.none,.none,.none,.none,.none,.none,.row 226 4 R false,.box (c1++.nils 1::c2),.none,.none]⟩ ⟨_,[],rfl,rfl,hM,_,hd,rfl,rfl,rfl⟩ rfl ?_
  refine vops_step (v:=.sl 8 1) ⟨[(1,.d (.int .i64 (lim))),(13,.sl 6 M),(16,.bv 7 0 m),(17,.d (.int .i64 ((((c1.length:Nat):Int))))),(18,.d (.int .i64 (w))),(19,.d (.int .i64 ((j:Nat)))),(75,.d (.int .i64 (n))),(76,.d (.int .i64 ((((c1.length:Nat):Int))))),(82,.d (.int .i64 ((M:Int)))),(83,.d (.int .i64 ((j:Nat)))),(112,.bv 7 0 m),(113,.d (.int .i64 ((((c1.length:Nat):Int))))),(114,.bv 7 0 m),(115,.d (.int .i64 ((((c1.length:Nat):Int))))),(116,.ptr 7 (0+((c1.length:Nat):Int).toNat * 1)),(117,.nils 1),(118,.sl 6 M),(119,.d (.int .i64 ((j:Nat)))),(120,.ep 6 M ((j:Nat):Int).toNat 0),(121,.ep 6 M ((j:Nat):Int).toNat (0+2)),(122,.d (.int .i64 (y))),(123,.sl 8 1)],[.none,.none,.none,.none,.none,.none,.row 226 4 R false,.box (c1++.nils 1::c2),.row 3 1 [.int .i64 y] false,.none]⟩ ⟨_,[],rfl,rfl,rfl,rfl,rfl,rfl⟩ rfl ?_
  refine vops_step (v:=.sl 9 (ints ([]:List Int)++[Data.int .i64 y]).length) ⟨[(1,.d (.int .i64 (lim))),(13,.sl 6 M),(16,.bv 7 0 m),(17,.d (.int .i64 ((((c1.length:Nat):Int))))),(18,.d (.int .i64 (w))),(19,.d (.int .i64 ((j:Nat)))),(75,.d (.int .i64 (n))),(76,.d (.int .i64 ((((c1.length:Nat):Int))))),(82,.d (.int .i64 ((M:Int)))),(83,.d (.int .i64 ((j:Nat)))),(112,.bv 7 0 m),(113,.d (.int .i64 ((((c1.length:Nat):Int))))),(114,.bv 7 0 m),(115,.d (.int .i64 ((((c1.length:Nat):Int))))),(116,.ptr 7 (0+((c1.length:Nat):Int).toNat * 1)),(117,.nils 1),(118,.sl 6 M),(119,.d (.int .i64 ((j:Nat)))),(120,.ep 6 M ((j:Nat):Int).toNat 0),(121,.ep 6 M ((j:Nat):Int).toNat (0+2)),(122,.d (.int .i64 (y))),(123,.sl 8 1),(124,.sl 9 (ints ([]:List Int)++[Data.int .i64 y]).length)],[.none,.none,.none,.none,.none,.none,.row 226 4 R false,.box (c1++.nils 1::c2),.row 3 1 [.int .i64 y] false,.row 3 1 (ints ([]:List Int)++[Data.int .i64 y]) false]⟩ ⟨_,_,rfl,rfl,rfl,rfl,_,[],rfl,rfl,⟨(show 1 * 8≤2 ^ 47 by decide),(show 1≤2 ^ 47 by decide)⟩,rfl,rfl,rfl⟩ rfl ?_
  refine vops_step (v:=.ptr 7 (0+((c1.length:Nat):Int).toNat * 1)) ⟨[(1,.d (.int .i64 (lim))),(13,.sl 6 M),(16,.bv 7 0 m),(17,.d (.int .i64 ((((c1.length:Nat):Int))))),(18,.d (.int .i64 (w))),(19,.d (.int .i64 ((j:Nat)))),(75,.d (.int .i64 (n))),(76,.d (.int .i64 ((((c1.length:Nat):Int))))),(82,.d (.int .i64 ((M:Int)))),(83,.d (.int .i64 ((j:Nat)))),(112,.bv 7 0 m),(113,.d (.int .i64 ((((c1.length:Nat):Int))))),(114,.bv 7 0 m),(115,.d (.int .i64 ((((c1.length:Nat):Int))))),(116,.ptr 7 (0+((c1.length:Nat):Int).toNat * 1)),(117,.nils 1),(118,.sl 6 M),(119,.d (.int .i64 ((j:Nat)))),(120,.ep 6 M ((j:Nat):Int).toNat 0),(121,.ep 6 M ((j:Nat):Int).toNat (0+2)),(122,.d (.int .i64 (y))),(123,.sl 8 1),(124,.sl 9 (ints ([]:List Int)++[Data.int .i64 y]).length),(125,.ptr 7 (0+((c1.length:Nat):Int).toNat * 1))],[.none,.none,.none,.none,.none,.none,.row 226 4 R false,.box (c1++.nils 1::c2),.row 3 1 [.int .i64 y] false,.row 3 1 (ints ([]:List Int)++[Data.int .i64 y]) false]⟩ ⟨⟨Int.natCast_nonneg _,by omega⟩,rfl,rfl,rfl⟩ rfl ?_
  refine vops_step (v:=.undef) ⟨[(1,.d (.int .i64 (lim))),(13,.sl 6 M),(16,.bv 7 0 m),(17,.d (.int .i64 ((((c1.length:Nat):Int))))),(18,.d (.int .i64 (w))),(19,.d (.int .i64 ((j:Nat)))),(75,.d (.int .i64 (n))),(76,.d (.int .i64 ((((c1.length:Nat):Int))))),(82,.d (.int .i64 ((M:Int)))),(83,.d (.int .i64 ((j:Nat)))),(112,.bv 7 0 m),(113,.d (.int .i64 ((((c1.length:Nat):Int))))),(114,.bv 7 0 m),(115,.d (.int .i64 ((((c1.length:Nat):Int))))),(116,.ptr 7 (0+((c1.length:Nat):Int).toNat * 1)),(117,.nils 1),(118,.sl 6 M),(119,.d (.int .i64 ((j:Nat)))),(120,.ep 6 M ((j:Nat):Int).toNat 0),(121,.ep 6 M ((j:Nat):Int).toNat (0+2)),(122,.d (.int .i64 (y))),(123,.sl 8 1),(124,.sl 9 (ints ([]:List Int)++[Data.int .i64 y]).length),(125,.ptr 7 (0+((c1.length:Nat):Int).toNat * 1))],[.none,.none,.none,.none,.none,.none,.row 226 4 R false,.box (c1++.sl 9 (ints ([]:List Int)++[Data.int .i64 y]).length::c2),.row 3 1 [.int .i64 y] false,.row 3 1 (ints ([]:List Int)++[Data.int .i64 y]) false]⟩ (est_mid (c1:=c1) (c2:=c2) rfl rfl rfl rfl rfl) rfl ?_
  show clear [8] ⟨[(1,.d (.int .i64 (lim))),(13,.sl 6 M),(16,.bv 7 0 m),(17,.d (.int .i64 ((((c1.length:Nat):Int))))),(18,.d (.int .i64 (w))),(75,.d (.int .i64 (n))),(76,.d (.int .i64 ((((c1.length:Nat):Int))))),(82,.d (.int .i64 ((M:Int)))),(83,.d (.int .i64 ((j:Nat))))],[.none,.none,.none,.none,.none,.none,.row 226 4 R false,.box (c1++.sl 9 (ints ([]:List Int)++[Data.int .i64 y]).length::c2),.row 3 1 [.int .i64 y] false,.row 3 1 (ints ([]:List Int)++[Data.int .i64 y]) false]⟩ (Q .normal)
  refine clear_t ?_ hQ
  show (noRefVs 8 (c1++.sl 9 (ints ([]:List Int)++[Data.int .i64 y]).length::c2)&&true)=true
  rw [fin]; rfl
 ·rw [(cz_ne hUn).1,(cz_ne hUn).2]
  show vc _ _ _ ⟨[(1,.d (.int .i64 (lim))),(13,.sl 6 M),(16,.bv 7 0 m),(17,.d (.int .i64 ((((c1.length:Nat):Int))))),(18,.d (.int .i64 (w))),(19,.d (.int .i64 ((j:Nat)))),(75,.d (.int .i64 (n))),(76,.d (.int .i64 ((((c1.length:Nat):Int))))),(82,.d (.int .i64 ((M:Int)))),(83,.d (.int .i64 ((j:Nat))))],[.none,.none,.none,.none,.none,.none,.row 226 4 R false,.box (c1++.sl 9 U.length::c2),.none,.row 3 1 (ints U) false]⟩ _
  refine vc_post_of ?_
  refine vc_regd_of ?_
  refine vops_step (v:=.bv 7 0 m) ⟨[(1,.d (.int .i64 (lim))),(13,.sl 6 M),(16,.bv 7 0 m),(17,.d (.int .i64 ((((c1.length:Nat):Int))))),(18,.d (.int .i64 (w))),(19,.d (.int .i64 ((j:Nat)))),(75,.d (.int .i64 (n))),(76,.d (.int .i64 ((((c1.length:Nat):Int))))),(82,.d (.int .i64 ((M:Int)))),(83,.d (.int .i64 ((j:Nat)))),(112,.bv 7 0 m)],[.none,.none,.none,.none,.none,.none,.row 226 4 R false,.box (c1++.sl 9 U.length::c2),.none,.row 3 1 (ints U) false]⟩ ⟨rfl,rfl,rfl⟩ rfl ?_
  refine vops_step (v:=.d (.int .i64 ((((c1.length:Nat):Int))))) ⟨[(1,.d (.int .i64 (lim))),(13,.sl 6 M),(16,.bv 7 0 m),(17,.d (.int .i64 ((((c1.length:Nat):Int))))),(18,.d (.int .i64 (w))),(19,.d (.int .i64 ((j:Nat)))),(75,.d (.int .i64 (n))),(76,.d (.int .i64 ((((c1.length:Nat):Int))))),(82,.d (.int .i64 ((M:Int)))),(83,.d (.int .i64 ((j:Nat)))),(112,.bv 7 0 m),(113,.d (.int .i64 ((((c1.length:Nat):Int)))))],[.none,.none,.none,.none,.none,.none,.row 226 4 R false,.box (c1++.sl 9 U.length::c2),.none,.row 3 1 (ints U) false]⟩ ⟨rfl,rfl,rfl⟩ rfl ?_
  refine vops_step (v:=.bv 7 0 m) ⟨[(1,.d (.int .i64 (lim))),(13,.sl 6 M),(16,.bv 7 0 m),(17,.d (.int .i64 ((((c1.length:Nat):Int))))),(18,.d (.int .i64 (w))),(19,.d (.int .i64 ((j:Nat)))),(75,.d (.int .i64 (n))),(76,.d (.int .i64 ((((c1.length:Nat):Int))))),(82,.d (.int .i64 ((M:Int)))),(83,.d (.int .i64 ((j:Nat)))),(112,.bv 7 0 m),(113,.d (.int .i64 ((((c1.length:Nat):Int))))),(114,.bv 7 0 m)],[.none,.none,.none,.none,.none,.none,.row 226 4 R false,.box (c1++.sl 9 U.length::c2),.none,.row 3 1 (ints U) false]⟩ ⟨rfl,rfl,rfl⟩ rfl ?_
  refine vops_step (v:=.d (.int .i64 ((((c1.length:Nat):Int))))) ⟨[(1,.d (.int .i64 (lim))),(13,.sl 6 M),(16,.bv 7 0 m),(17,.d (.int .i64 ((((c1.length:Nat):Int))))),(18,.d (.int .i64 (w))),(19,.d (.int .i64 ((j:Nat)))),(75,.d (.int .i64 (n))),(76,.d (.int .i64 ((((c1.length:Nat):Int))))),(82,.d (.int .i64 ((M:Int)))),(83,.d (.int .i64 ((j:Nat)))),(112,.bv 7 0 m),(113,.d (.int .i64 ((((c1.length:Nat):Int))))),(114,.bv 7 0 m),(115,.d (.int .i64 ((((c1.length:Nat):Int)))))],[.none,.none,.none,.none,.none,.none,.row 226 4 R false,.box (c1++.sl 9 U.length::c2),.none,.row 3 1 (ints U) false]⟩ ⟨rfl,rfl,rfl⟩ rfl ?_
  refine vops_step (v:=.ptr 7 (0+((c1.length:Nat):Int).toNat * 1)) ⟨[(1,.d (.int .i64 (lim))),(13,.sl 6 M),(16,.bv 7 0 m),(17,.d (.int .i64 ((((c1.length:Nat):Int))))),(18,.d (.int .i64 (w))),(19,.d (.int .i64 ((j:Nat)))),(75,.d (.int .i64 (n))),(76,.d (.int .i64 ((((c1.length:Nat):Int))))),(82,.d (.int .i64 ((M:Int)))),(83,.d (.int .i64 ((j:Nat)))),(112,.bv 7 0 m),(113,.d (.int .i64 ((((c1.length:Nat):Int))))),(114,.bv 7 0 m),(115,.d (.int .i64 ((((c1.length:Nat):Int))))),(116,.ptr 7 (0+((c1.length:Nat):Int).toNat * 1))],[.none,.none,.none,.none,.none,.none,.row 226 4 R false,.box (c1++.sl 9 U.length::c2),.none,.row 3 1 (ints U) false]⟩ ⟨⟨Int.natCast_nonneg _,by omega⟩,rfl,rfl,rfl⟩ rfl ?_
  refine vops_step (v:=.sl 9 U.length) ⟨[(1,.d (.int .i64 (lim))),(13,.sl 6 M),(16,.bv 7 0 m),(17,.d (.int .i64 ((((c1.length:Nat):Int))))),(18,.d (.int .i64 (w))),(19,.d (.int .i64 ((j:Nat)))),(75,.d (.int .i64 (n))),(76,.d (.int .i64 ((((c1.length:Nat):Int))))),(82,.d (.int .i64 ((M:Int)))),(83,.d (.int .i64 ((j:Nat)))),(112,.bv 7 0 m),(113,.d (.int .i64 ((((c1.length:Nat):Int))))),(114,.bv 7 0 m),(115,.d (.int .i64 ((((c1.length:Nat):Int))))),(116,.ptr 7 (0+((c1.length:Nat):Int).toNat * 1)),(117,.sl 9 U.length)],[.none,.none,.none,.none,.none,.none,.row 226 4 R false,.box (c1++.sl 9 U.length::c2),.none,.row 3 1 (ints U) false]⟩ (eld_mid rfl rfl) rfl ?_
  refine vops_step (v:=.sl 6 M) ⟨[(1,.d (.int .i64 (lim))),(13,.sl 6 M),(16,.bv 7 0 m),(17,.d (.int .i64 ((((c1.length:Nat):Int))))),(18,.d (.int .i64 (w))),(19,.d (.int .i64 ((j:Nat)))),(75,.d (.int .i64 (n))),(76,.d (.int .i64 ((((c1.length:Nat):Int))))),(82,.d (.int .i64 ((M:Int)))),(83,.d (.int .i64 ((j:Nat)))),(112,.bv 7 0 m),(113,.d (.int .i64 ((((c1.length:Nat):Int))))),(114,.bv 7 0 m),(115,.d (.int .i64 ((((c1.length:Nat):Int))))),(116,.ptr 7 (0+((c1.length:Nat):Int).toNat * 1)),(117,.sl 9 U.length),(118,.sl 6 M)],[.none,.none,.none,.none,.none,.none,.row 226 4 R false,.box (c1++.sl 9 U.length::c2),.none,.row 3 1 (ints U) false]⟩ ⟨rfl,rfl,rfl⟩ rfl ?_
  refine vops_step (v:=.d (.int .i64 ((j:Nat)))) ⟨[(1,.d (.int .i64 (lim))),(13,.sl 6 M),(16,.bv 7 0 m),(17,.d (.int .i64 ((((c1.length:Nat):Int))))),(18,.d (.int .i64 (w))),(19,.d (.int .i64 ((j:Nat)))),(75,.d (.int .i64 (n))),(76,.d (.int .i64 ((((c1.length:Nat):Int))))),(82,.d (.int .i64 ((M:Int)))),(83,.d (.int .i64 ((j:Nat)))),(112,.bv 7 0 m),(113,.d (.int .i64 ((((c1.length:Nat):Int))))),(114,.bv 7 0 m),(115,.d (.int .i64 ((((c1.length:Nat):Int))))),(116,.ptr 7 (0+((c1.length:Nat):Int).toNat * 1)),(117,.sl 9 U.length),(118,.sl 6 M),(119,.d (.int .i64 ((j:Nat))))],[.none,.none,.none,.none,.none,.none,.row 226 4 R false,.box (c1++.sl 9 U.length::c2),.none,.row 3 1 (ints U) false]⟩ ⟨rfl,rfl,rfl⟩ rfl ?_
  refine vops_step (v:=.ep 6 M ((j:Nat):Int).toNat 0) ⟨[(1,.d (.int .i64 (lim))),(13,.sl 6 M),(16,.bv 7 0 m),(17,.d (.int .i64 ((((c1.length:Nat):Int))))),(18,.d (.int .i64 (w))),(19,.d (.int .i64 ((j:Nat)))),(75,.d (.int .i64 (n))),(76,.d (.int .i64 ((((c1.length:Nat):Int))))),(82,.d (.int .i64 ((M:Int)))),(83,.d (.int .i64 ((j:Nat)))),(112,.bv 7 0 m),(113,.d (.int .i64 ((((c1.length:Nat):Int))))),(114,.bv 7 0 m),(115,.d (.int .i64 ((((c1.length:Nat):Int))))),(116,.ptr 7 (0+((c1.length:Nat):Int).toNat * 1)),(117,.sl 9 U.length),(118,.sl 6 M),(119,.d (.int .i64 ((j:Nat)))),(120,.ep 6 M ((j:Nat):Int).toNat 0)],[.none,.none,.none,.none,.none,.none,.row 226 4 R false,.box (c1++.sl 9 U.length::c2),.none,.row 3 1 (ints U) false]⟩ ⟨_,[],rfl,rfl,⟨rfl,hM,Int.natCast_nonneg _,by omega⟩,rfl,rfl,rfl⟩ rfl ?_
  refine vops_step (v:=.ep 6 M ((j:Nat):Int).toNat (0+2)) ⟨[(1,.d (.int .i64 (lim))),(13,.sl 6 M),(16,.bv 7 0 m),(17,.d (.int .i64 ((((c1.length:Nat):Int))))),(18,.d (.int .i64 (w))),(19,.d (.int .i64 ((j:Nat)))),(75,.d (.int .i64 (n))),(76,.d (.int .i64 ((((c1.length:Nat):Int))))),(82,.d (.int .i64 ((M:Int)))),(83,.d (.int .i64 ((j:Nat)))),(112,.bv 7 0 m),(113,.d (.int .i64 ((((c1.length:Nat):Int))))),(114,.bv 7 0 m),(115,.d (.int .i64 ((((c1.length:Nat):Int))))),(116,.ptr 7 (0+((c1.length:Nat):Int).toNat * 1)),(117,.sl 9 U.length),(118,.sl 6 M),(119,.d (.int .i64 ((j:Nat)))),(120,.ep 6 M ((j:Nat):Int).toNat 0),(121,.ep 6 M ((j:Nat):Int).toNat (0+2))],[.none,.none,.none,.none,.none,.none,.row 226 4 R false,.box (c1++.sl 9 U.length::c2),.none,.row 3 1 (ints U) false]⟩ ⟨_,[],rfl,rfl,hM,rfl,rfl,rfl⟩ rfl ?_
  refine vops_step (v:=.d (.int .i64 (y))) ⟨[(1,.d (.int .i64 (lim))),(13,.sl 6 M),(16,.bv 7 0 m),(17,.d (.int .i64 ((((c1.length:Nat):Int))))),(18,.d (.int .i64 (w))),(19,.d (.int .i64 ((j:Nat)))),(75,.d (.int .i64 (n))),(76,.d (.int .i64 ((((c1.length:Nat):Int))))),(82,.d (.int .i64 ((M:Int)))),(83,.d (.int .i64 ((j:Nat)))),(112,.bv 7 0 m),(113,.d (.int .i64 ((((c1.length:Nat):Int))))),(114,.bv 7 0 m),(115,.d (.int .i64 ((((c1.length:Nat):Int))))),(116,.ptr 7 (0+((c1.length:Nat):Int).toNat * 1)),(117,.sl 9 U.length),(118,.sl 6 M),(119,.d (.int .i64 ((j:Nat)))),(120,.ep 6 M ((j:Nat):Int).toNat 0),(121,.ep 6 M ((j:Nat):Int).toNat (0+2)),(122,.d (.int .i64 (y)))],[.none,.none,.none,.none,.none,.none,.row 226 4 R false,.box (c1++.sl 9 U.length::c2),.none,.row 3 1 (ints U) false]⟩ ⟨_,[],rfl,rfl,hM,_,hd,rfl,rfl,rfl⟩ rfl ?_
  refine vops_step (v:=.sl 8 1) ⟨[(1,.d (.int .i64 (lim))),(13,.sl 6 M),(16,.bv 7 0 m),(17,.d (.int .i64 ((((c1.length:Nat):Int))))),(18,.d (.int .i64 (w))),(19,.d (.int .i64 ((j:Nat)))),(75,.d (.int .i64 (n))),(76,.d (.int .i64 ((((c1.length:Nat):Int))))),(82,.d (.int .i64 ((M:Int)))),(83,.d (.int .i64 ((j:Nat)))),(112,.bv 7 0 m),(113,.d (.int .i64 ((((c1.length:Nat):Int))))),(114,.bv 7 0 m),(115,.d (.int .i64 ((((c1.length:Nat):Int))))),(116,.ptr 7 (0+((c1.length:Nat):Int).toNat * 1)),(117,.sl 9 U.length),(118,.sl 6 M),(119,.d (.int .i64 ((j:Nat)))),(120,.ep 6 M ((j:Nat):Int).toNat 0),(121,.ep 6 M ((j:Nat):Int).toNat (0+2)),(122,.d (.int .i64 (y))),(123,.sl 8 1)],[.none,.none,.none,.none,.none,.none,.row 226 4 R false,.box (c1++.sl 9 U.length::c2),.row 3 1 [.int .i64 y] false,.row 3 1 (ints U) false]⟩ ⟨_,[],rfl,rfl,rfl,rfl,rfl,rfl⟩ rfl ?_
  refine vops_step (v:=.sl 9 (ints U++[Data.int .i64 y]).length) ⟨[(1,.d (.int .i64 (lim))),(13,.sl 6 M),(16,.bv 7 0 m),(17,.d (.int .i64 ((((c1.length:Nat):Int))))),(18,.d (.int .i64 (w))),(19,.d (.int .i64 ((j:Nat)))),(75,.d (.int .i64 (n))),(76,.d (.int .i64 ((((c1.length:Nat):Int))))),(82,.d (.int .i64 ((M:Int)))),(83,.d (.int .i64 ((j:Nat)))),(112,.bv 7 0 m),(113,.d (.int .i64 ((((c1.length:Nat):Int))))),(114,.bv 7 0 m),(115,.d (.int .i64 ((((c1.length:Nat):Int))))),(116,.ptr 7 (0+((c1.length:Nat):Int).toNat * 1)),(117,.sl 9 U.length),(118,.sl 6 M),(119,.d (.int .i64 ((j:Nat)))),(120,.ep 6 M ((j:Nat):Int).toNat 0),(121,.ep 6 M ((j:Nat):Int).toNat (0+2)),(122,.d (.int .i64 (y))),(123,.sl 8 1),(124,.sl 9 (ints U++[Data.int .i64 y]).length)],[.none,.none,.none,.none,.none,.none,.row 226 4 R false,.box (c1++.sl 9 U.length::c2),.row 3 1 [.int .i64 y] false,.row 3 1 (ints U++[Data.int .i64 y]) false]⟩ ⟨_,_,rfl,rfl,rfl,rfl,_,[],rfl,rfl,⟨rfl,rfl,hlU,by show ((ints U).length+1) * 8≤2 ^ 47; omega,by show (ints U).length+1≤2 ^ 47; omega⟩,rfl,rfl,rfl⟩ rfl ?_
  refine vops_step (v:=.ptr 7 (0+((c1.length:Nat):Int).toNat * 1)) ⟨[(1,.d (.int .i64 (lim))),(13,.sl 6 M),(16,.bv 7 0 m),(17,.d (.int .i64 ((((c1.length:Nat):Int))))),(18,.d (.int .i64 (w))),(19,.d (.int .i64 ((j:Nat)))),(75,.d (.int .i64 (n))),(76,.d (.int .i64 ((((c1.length:Nat):Int))))),(82,.d (.int .i64 ((M:Int)))),(83,.d (.int .i64 ((j:Nat)))),(112,.bv 7 0 m),(113,.d (.int .i64 ((((c1.length:Nat):Int))))),(114,.bv 7 0 m),(115,.d (.int .i64 ((((c1.length:Nat):Int))))),(116,.ptr 7 (0+((c1.length:Nat):Int).toNat * 1)),(117,.sl 9 U.length),(118,.sl 6 M),(119,.d (.int .i64 ((j:Nat)))),(120,.ep 6 M ((j:Nat):Int).toNat 0),(121,.ep 6 M ((j:Nat):Int).toNat (0+2)),(122,.d (.int .i64 (y))),(123,.sl 8 1),(124,.sl 9 (ints U++[Data.int .i64 y]).length),(125,.ptr 7 (0+((c1.length:Nat):Int).toNat * 1))],[.none,.none,.none,.none,.none,.none,.row 226 4 R false,.box (c1++.sl 9 U.length::c2),.row 3 1 [.int .i64 y] false,.row 3 1 (ints U++[Data.int .i64 y]) false]⟩ ⟨⟨Int.natCast_nonneg _,by omega⟩,rfl,rfl,rfl⟩ rfl ?_
  refine vops_step (v:=.undef) ⟨[(1,.d (.int .i64 (lim))),(13,.sl 6 M),(16,.bv 7 0 m),(17,.d (.int .i64 ((((c1.length:Nat):Int))))),(18,.d (.int .i64 (w))),(19,.d (.int .i64 ((j:Nat)))),(75,.d (.int .i64 (n))),(76,.d (.int .i64 ((((c1.length:Nat):Int))))),(82,.d (.int .i64 ((M:Int)))),(83,.d (.int .i64 ((j:Nat)))),(112,.bv 7 0 m),(113,.d (.int .i64 ((((c1.length:Nat):Int))))),(114,.bv 7 0 m),(115,.d (.int .i64 ((((c1.length:Nat):Int))))),(116,.ptr 7 (0+((c1.length:Nat):Int).toNat * 1)),(117,.sl 9 U.length),(118,.sl 6 M),(119,.d (.int .i64 ((j:Nat)))),(120,.ep 6 M ((j:Nat):Int).toNat 0),(121,.ep 6 M ((j:Nat):Int).toNat (0+2)),(122,.d (.int .i64 (y))),(123,.sl 8 1),(124,.sl 9 (ints U++[Data.int .i64 y]).length),(125,.ptr 7 (0+((c1.length:Nat):Int).toNat * 1))],[.none,.none,.none,.none,.none,.none,.row 226 4 R false,.box (c1++.sl 9 (ints U++[Data.int .i64 y]).length::c2),.row 3 1 [.int .i64 y] false,.row 3 1 (ints U++[Data.int .i64 y]) false]⟩ (est_mid (c1:=c1) (c2:=c2) rfl rfl rfl rfl rfl) rfl ?_
  show clear [8] ⟨[(1,.d (.int .i64 (lim))),(13,.sl 6 M),(16,.bv 7 0 m),(17,.d (.int .i64 ((((c1.length:Nat):Int))))),(18,.d (.int .i64 (w))),(75,.d (.int .i64 (n))),(76,.d (.int .i64 ((((c1.length:Nat):Int))))),(82,.d (.int .i64 ((M:Int)))),(83,.d (.int .i64 ((j:Nat))))],[.none,.none,.none,.none,.none,.none,.row 226 4 R false,.box (c1++.sl 9 (ints U++[Data.int .i64 y]).length::c2),.row 3 1 [.int .i64 y] false,.row 3 1 (ints U++[Data.int .i64 y]) false]⟩ (Q .normal)
  refine clear_t ?_ hQ
  show (noRefVs 8 (c1++.sl 9 (ints U++[Data.int .i64 y]).length::c2)&&true)=true
  rw [fin]; rfl
theorem v86i {xr:ACode} {N:Nat} {lim n:Int} {M m:Nat} {O:List Rn} {c1 c2:List AVal} (hM:M=O.length) (hO:O.length≤8) (hm:c1.length < m) (hlim:0≤lim∧lim≤8000) (hr:∀ r∈O,(0≤r.pw∧r.pw≤1000)∧(0≤r.tn∧r.tn≤100)) (hv:∀ (w:Int) (r:Rn) (j:Nat) (R:List Data) (U:List Int),R.length=M→j < M→U.length≤8→R[((j:Nat):Int).toNat]?=some (Data.agg [.str r.nm,.int .i64 r.pw,.int .i64 r.ix,.int .i64 r.tn])→∀ Q:AExit→St→Prop,Q .normal ⟨[(1,.d (.int .i64 lim)),(13,.sl 6 M),(16,.bv 7 0 m),(17,.d (.int .i64 (((c1.length:Nat):Int)))),(18,.d (.int .i64 (w))),(75,.d (.int .i64 n)),(76,.d (.int .i64 (((c1.length:Nat):Int)))),(82,.d (.int .i64 (M:Int))),(83,.d (.int .i64 (j:Nat)))],[.none,.none,.none,.none,.none,.none,.row 226 4 R false,.box (c1++.sl 9 (ints U++[Data.int .i64 r.ix]).length::c2),.none,.row 3 1 (ints U++[Data.int .i64 r.ix]) false]⟩→vc Tryz.prog N xr ⟨[(1,.d (.int .i64 lim)),(13,.sl 6 M),(16,.bv 7 0 m),(17,.d (.int .i64 (((c1.length:Nat):Int)))),(18,.d (.int .i64 (w))),(19,.d (.int .i64 (j:Nat))),(75,.d (.int .i64 n)),(76,.d (.int .i64 (((c1.length:Nat):Int)))),(82,.d (.int .i64 (M:Int))),(83,.d (.int .i64 (j:Nat)))],[.none,.none,.none,.none,.none,.none,.row 226 4 R false,.box (c1++cz U::c2),.none,oz U]⟩ Q) {Q:AExit→St→Prop} (hQ:Q .normal ⟨[(1,.d (.int .i64 lim)),(13,.sl 6 M),(16,.bv 7 0 m),(17,.d (.int .i64 (((c1.length:Nat):Int)))),(75,.d (.int .i64 n)),(76,.d (.int .i64 (((c1.length:Nat):Int))))],[.none,.none,.none,.none,.none,.none,.row 226 4 (rns ((gGo lim O 0).1)) false,.box (c1++cz (gGo lim O 0).2::c2),.none,oz (gGo lim O 0).2]⟩):vc Tryz.prog N (seg86i xr) ⟨[(1,.d (.int .i64 lim)),(13,.sl 6 M),(16,.bv 7 0 m),(17,.d (.int .i64 (((c1.length:Nat):Int)))),(18,.d (.int .i64 (0))),(75,.d (.int .i64 n)),(76,.d (.int .i64 (((c1.length:Nat):Int)))),(82,.d (.int .i64 (M:Int))),(83,.d (.int .i64 (0)))],[.none,.none,.none,.none,.none,.none,.row 226 4 (rns (O)) false,.box (c1++.nils 1::c2),.none,.none]⟩ Q:=by
 unfold seg86i
 refine loop_st (fun j:Nat=>⟨[(1,.d (.int .i64 lim)),(13,.sl 6 M),(16,.bv 7 0 m),(17,.d (.int .i64 (((c1.length:Nat):Int)))),(18,.d (.int .i64 (gP lim (O.take j) 0))),(75,.d (.int .i64 n)),(76,.d (.int .i64 (((c1.length:Nat):Int)))),(82,.d (.int .i64 (M:Int))),(83,.d (.int .i64 ((j:Nat))))],[.none,.none,.none,.none,.none,.none,.row 226 4 (rns ((gGo lim (O.take j) 0).1++O.drop j)) false,.box (c1++cz (gGo lim (O.take j) 0).2::c2),.none,oz (gGo lim (O.take j) 0).2]⟩) (fun j=>j≤O.length) (fun j=>O.length - j) 0 rfl (Nat.zero_le _) ?_
 intro j hj
 have hj:j≤O.length:=hj
 have hl1:(gGo lim (O.take j) 0).1.length=j:=by rw [gGo_len1,List.length_take]; omega
 have hl2:(gGo lim (O.take j) 0).2.length≤j:=by have:=gGo_len lim (O.take j) 0; rw [List.length_take] at this; omega
 have hgp:=gP_rng lim (O:=O.take j) (p:=0) (fun r h=>(hr r (List.mem_of_mem_take h)).1) (Int.le_refl 0)
 dsimp only
 by_cases hjn:j < O.length
 ·refine Exists.elim (get_lt O hjn) fun r hx=>?_
  have hrr:=hr r (List.mem_of_getElem? hx)
  have g1:=gGo_snoc1 lim r (O.take j) 0
  have g2:=gGo_snoc lim r (O.take j) 0
  have g3:=gP_snoc lim r (O.take j) 0
  rw [← take_one hx] at g1 g2 g3
  rw [drop_at hx]
  have fin:∀ (w:Int) (L:List Rn) (U:List Int),w=gP lim (O.take (j+1)) 0→L=(gGo lim (O.take (j+1)) 0).1++O.drop (j+1)→U=(gGo lim (O.take (j+1)) 0).2→∃ a':Nat,(a'≤O.length∧O.length - a' < O.length - j)∧(⟨[(1,.d (.int .i64 lim)),(13,.sl 6 M),(16,.bv 7 0 m),(17,.d (.int .i64 (((c1.length:Nat):Int)))),(18,.d (.int .i64 (w))),(75,.d (.int .i64 n)),(76,.d (.int .i64 (((c1.length:Nat):Int)))),(82,.d (.int .i64 (M:Int))),(83,.d (.int .i64 (((j:Int)+1))))],[.none,.none,.none,.none,.none,.none,.row 226 4 (rns (L)) false,.box (c1++cz U::c2),.none,oz U]⟩:St)=⟨[(1,.d (.int .i64 lim)),(13,.sl 6 M),(16,.bv 7 0 m),(17,.d (.int .i64 (((c1.length:Nat):Int)))),(18,.d (.int .i64 (gP lim (O.take a') 0))),(75,.d (.int .i64 n)),(76,.d (.int .i64 (((c1.length:Nat):Int)))),(82,.d (.int .i64 (M:Int))),(83,.d (.int .i64 ((a':Nat))))],[.none,.none,.none,.none,.none,.none,.row 226 4 (rns ((gGo lim (O.take a') 0).1++O.drop a')) false,.box (c1++cz (gGo lim (O.take a') 0).2::c2),.none,oz (gGo lim (O.take a') 0).2]⟩:=fun w L U e1 e2 e3 =>
   ⟨j+1,⟨by omega,by omega⟩,by rw [e1,e2,e3]; rfl⟩
  rw [g1,g2,g3] at fin
  clear g1 g2 g3 hr hQ
  generalize gP lim (O.take j) 0=w at *
  generalize (gGo lim (O.take j) 0).1=L at *
  generalize (gGo lim (O.take j) 0).2=U at *
  have hlT:(O.drop (j+1)).length=O.length - (j+1):=List.length_drop
  generalize O.drop (j+1)=T at *
  have hlr:(rns (L++r::T)).length=M:=by rw [rns_len,List.length_append,List.length_cons]; omega
  have a1:(rns (L++r::T))[((j:Nat):Int).toNat]?=some (.agg [.str r.nm,.int .i64 r.pw,.int .i64 r.ix,.int .i64 r.tn]):=rns_at (by rw [List.getElem?_append_right (by omega),hl1,Nat.sub_self]; rfl)
  by_cases hc:lim < w+r.pw
  ·rw [decide_eq_true hc] at fin
   have fin:=fin w (L++r::T) U rfl (by simp) (by simp)
   by_cases hU:U=[]
   ·subst hU
    refine sd ?_
    refine b_lt (fun t1=>?_) (fun t1=>?_)
    refine an ?_ ?_
    refine an ?_ ?_
    exact rfl
    refine an ?_ ?_
    assumption
    refine an ?_ ?_
    (show (0:Int)≤(↑j:Int); omega)
    assumption
    refine an ?_ ?_
    assumption
    refine an ?_ ?_
    assumption
    refine an ?_ ?_
    assumption
    refine ca a1 ?_
    refine ar_add ?_ ?_
    refine an ?_ ?_
    (show (-9223372036854775808:Int)≤w+Rn.pw r; omega)
    (show w+Rn.pw r≤(9223372036854775807:Int); omega)
    refine sd ?_
    refine b_lt (fun t2=>?_) (fun t2=>?_)
    refine ar_add ?_ ?_
    refine an ?_ ?_
    (show (-9223372036854775808:Int)≤(↑j:Int)+(1:Int); omega)
    (show (↑j:Int)+(1:Int)≤(9223372036854775807:Int); omega)
    rotate_left
    (exfalso; omega)
    (exfalso; omega)
    exact fin
   ·rw [(cz_ne hU).1,(cz_ne hU).2] at fin ⊢
    refine sd ?_
    refine b_lt (fun t1=>?_) (fun t1=>?_)
    refine an ?_ ?_
    refine an ?_ ?_
    exact rfl
    refine an ?_ ?_
    assumption
    refine an ?_ ?_
    (show (0:Int)≤(↑j:Int); omega)
    assumption
    refine an ?_ ?_
    assumption
    refine an ?_ ?_
    assumption
    refine an ?_ ?_
    assumption
    refine ca a1 ?_
    refine ar_add ?_ ?_
    refine an ?_ ?_
    (show (-9223372036854775808:Int)≤w+Rn.pw r; omega)
    (show w+Rn.pw r≤(9223372036854775807:Int); omega)
    refine sd ?_
    refine b_lt (fun t2=>?_) (fun t2=>?_)
    refine ar_add ?_ ?_
    refine an ?_ ?_
    (show (-9223372036854775808:Int)≤(↑j:Int)+(1:Int); omega)
    (show (↑j:Int)+(1:Int)≤(9223372036854775807:Int); omega)
    rotate_left
    (exfalso; omega)
    (exfalso; omega)
    exact fin
  ·rw [decide_eq_false hc] at fin
   have fin:=fin (w+r.pw) (L++{ r with tn:=r.tn+1 }::T) (U++[r.ix]) rfl (by simp) rfl
   have a2:((rns (L++r::T)).set j (.agg [.str r.nm,.int .i64 r.pw,.int .i64 r.ix,.int .i64 (r.tn+1)]))[((j:Nat):Int).toNat]?=some (.agg [.str r.nm,.int .i64 r.pw,.int .i64 r.ix,.int .i64 (r.tn+1)]):=by
    rw [show ((j:Nat):Int).toNat=j from rfl,List.getElem?_set_self (by rw [hlr]; omega)]
   have a3:(rns (L++r::T)).set j (.agg [.str r.nm,.int .i64 r.pw,.int .i64 r.ix,.int .i64 (r.tn+1)])=rns (L++{ r with tn:=r.tn+1 }::T):=by
    unfold rns
    rw [← hl1,List.map_append,List.map_append,List.set_append_right _ _ (by rw [List.length_map]; omega),List.length_map,Nat.sub_self]; rfl
   rw [← a3,(cz_ne (List.append_ne_nil_of_right_ne_nil U (List.cons_ne_nil r.ix []))).1,(cz_ne (List.append_ne_nil_of_right_ne_nil U (List.cons_ne_nil r.ix []))).2,show (U++[r.ix]).length=(ints U++[Data.int .i64 r.ix]).length by unfold ints; rw [List.length_append,List.length_append,List.length_map]; rfl,show ints (U++[r.ix])=ints U++[Data.int .i64 r.ix] from List.map_append] at fin
   have hvr:=hv (w+r.pw) { r with tn:=r.tn+1 } j ((rns (L++r::T)).set j (.agg [.str r.nm,.int .i64 r.pw,.int .i64 r.ix,.int .i64 (r.tn+1)])) U (by rw [List.length_set]; exact hlr) (by omega) (by omega) a2
   clear a2 a3 hv
   by_cases hU:U=[]
   ·subst hU
    refine sd ?_
    refine b_lt (fun t1=>?_) (fun t1=>?_)
    refine an ?_ ?_
    refine an ?_ ?_
    exact rfl
    refine an ?_ ?_
    assumption
    refine an ?_ ?_
    (show (0:Int)≤(↑j:Int); omega)
    assumption
    refine an ?_ ?_
    assumption
    refine an ?_ ?_
    assumption
    refine an ?_ ?_
    assumption
    refine ca a1 ?_
    refine ar_add ?_ ?_
    refine an ?_ ?_
    (show (-9223372036854775808:Int)≤w+Rn.pw r; omega)
    (show w+Rn.pw r≤(9223372036854775807:Int); omega)
    refine sd ?_
    refine b_lt (fun t2=>?_) (fun t2=>?_)
    (exfalso; omega)
    refine an ?_ ?_
    refine an ?_ ?_
    exact rfl
    refine an ?_ ?_
    assumption
    refine an ?_ ?_
    (show (0:Int)≤(↑j:Int); omega)
    assumption
    refine an ?_ ?_
    assumption
    refine an ?_ ?_
    assumption
    refine an ?_ ?_
    assumption
    refine ca a1 ?_
    refine ar_add ?_ ?_
    refine an ?_ ?_
    (show (-9223372036854775808:Int)≤w+Rn.pw r; omega)
    (show w+Rn.pw r≤(9223372036854775807:Int); omega)
    refine an ?_ ?_
    refine an ?_ ?_
    exact rfl
    refine an ?_ ?_
    assumption
    refine an ?_ ?_
    (show (0:Int)≤(↑j:Int); omega)
    assumption
    refine an ?_ ?_
    assumption
    refine an ?_ ?_
    assumption
    refine ca a1 ?_
    refine ar_add ?_ ?_
    refine an ?_ ?_
    (show (-9223372036854775808:Int)≤Rn.tn r+(1:Int); omega)
    (show Rn.tn r+(1:Int)≤(9223372036854775807:Int); omega)
    refine an ?_ ?_
    refine an ?_ ?_
    exact rfl
    refine an ?_ ?_
    assumption
    refine an ?_ ?_
    (show (0:Int)≤(↑j:Int); omega)
    assumption
    refine an ?_ ?_
    assumption
    refine Exists.intro _ (Exists.intro (Vc.Data.agg [Data.str (Rn.nm r),Data.int IntKind.i64 (Rn.pw r),Data.int IntKind.i64 (Rn.ix r),Data.int IntKind.i64 (Rn.tn r+(1:Int))]) (And.intro (And.intro ?_ (And.intro a1 (And.intro rfl (And.intro ?_ (And.intro rfl rfl))))) ?_))
    assumption
    (show (0:Nat)+(3:Nat)+(1:Nat)≤(1:Nat)+(1:Nat)+(1:Nat)+(1:Nat); omega)
    refine hvr _ ?_
    refine ar_add ?_ ?_
    refine an ?_ ?_
    (show (-9223372036854775808:Int)≤(↑j:Int)+(1:Int); omega)
    (show (↑j:Int)+(1:Int)≤(9223372036854775807:Int); omega)
    rotate_left
    (exfalso; omega)
    exact fin
   ·rw [(cz_ne hU).1,(cz_ne hU).2] at hvr ⊢
    refine sd ?_
    refine b_lt (fun t1=>?_) (fun t1=>?_)
    refine an ?_ ?_
    refine an ?_ ?_
    exact rfl
    refine an ?_ ?_
    assumption
    refine an ?_ ?_
    (show (0:Int)≤(↑j:Int); omega)
    assumption
    refine an ?_ ?_
    assumption
    refine an ?_ ?_
    assumption
    refine an ?_ ?_
    assumption
    refine ca a1 ?_
    refine ar_add ?_ ?_
    refine an ?_ ?_
    (show (-9223372036854775808:Int)≤w+Rn.pw r; omega)
    (show w+Rn.pw r≤(9223372036854775807:Int); omega)
    refine sd ?_
    refine b_lt (fun t2=>?_) (fun t2=>?_)
    (exfalso; omega)
    refine an ?_ ?_
    refine an ?_ ?_
    exact rfl
    refine an ?_ ?_
    assumption
    refine an ?_ ?_
    (show (0:Int)≤(↑j:Int); omega)
    assumption
    refine an ?_ ?_
    assumption
    refine an ?_ ?_
    assumption
    refine an ?_ ?_
    assumption
    refine ca a1 ?_
    refine ar_add ?_ ?_
    refine an ?_ ?_
    (show (-9223372036854775808:Int)≤w+Rn.pw r; omega)
    (show w+Rn.pw r≤(9223372036854775807:Int); omega)
    refine an ?_ ?_
    refine an ?_ ?_
    exact rfl
    refine an ?_ ?_
    assumption
    refine an ?_ ?_
    (show (0:Int)≤(↑j:Int); omega)
    assumption
    refine an ?_ ?_
    assumption
    refine an ?_ ?_
    assumption
    refine ca a1 ?_
    refine ar_add ?_ ?_
    refine an ?_ ?_
    (show (-9223372036854775808:Int)≤Rn.tn r+(1:Int); omega)
    (show Rn.tn r+(1:Int)≤(9223372036854775807:Int); omega)
    refine an ?_ ?_
    refine an ?_ ?_
    exact rfl
    refine an ?_ ?_
    assumption
    refine an ?_ ?_
    (show (0:Int)≤(↑j:Int); omega)
    assumption
    refine an ?_ ?_
    assumption
    refine Exists.intro _ (Exists.intro (Vc.Data.agg [Data.str (Rn.nm r),Data.int IntKind.i64 (Rn.pw r),Data.int IntKind.i64 (Rn.ix r),Data.int IntKind.i64 (Rn.tn r+(1:Int))]) (And.intro (And.intro ?_ (And.intro a1 (And.intro rfl (And.intro ?_ (And.intro rfl rfl))))) ?_))
    assumption
    (show (0:Nat)+(3:Nat)+(1:Nat)≤(1:Nat)+(1:Nat)+(1:Nat)+(1:Nat); omega)
    refine hvr _ ?_
    refine ar_add ?_ ?_
    refine an ?_ ?_
    (show (-9223372036854775808:Int)≤(↑j:Int)+(1:Int); omega)
    (show (↑j:Int)+(1:Int)≤(9223372036854775807:Int); omega)
    rotate_left
    (exfalso; omega)
    exact fin
 ·have e:j=O.length:=by omega
  subst e
  rw [List.drop_eq_nil_of_le (Nat.le_refl _),List.append_nil,List.take_of_length_le (Nat.le_refl _)]
  by_cases hU:(gGo lim O 0).2=[]
  ·rw [hU] at hQ ⊢
   refine sd ?_
   refine b_lt (fun t1=>?_) (fun t1=>?_)
   (exfalso; omega)
   rotate_left
   exact hQ
  ·rw [(cz_ne hU).1,(cz_ne hU).2] at hQ ⊢
   refine sd ?_
   refine b_lt (fun t1=>?_) (fun t1=>?_)
   (exfalso; omega)
   rotate_left
   exact hQ
end Vc
