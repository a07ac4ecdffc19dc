import Derived.Test.YtifgdpnmgeffbaaGreatDoorG10
set_option linter.unusedSectionVars false
set_option linter.unusedVariables false
set_option linter.unusedSimpArgs false
set_option maxRecDepth 10000
set_option maxHeartbeats 4000000
namespace Vc
open Go Go.Proofs
def jr65:AFun:=⟨34,2,[.tmp 2,.tmp 3],
 (.seq
 (.reg [0] [⟨some 1,.cbx 0 2 (.tmp 0),none⟩,
  ⟨some 2,.mov (.cst (.d (.int .i64 0))),none⟩,
  ⟨some 3,.mov (.cst (.d (.int .i64 0))),none⟩])
 (.seq
  (.seq
  (.regd [1] [⟨some 6,.fad 0 (.tmp 1),none⟩,
   ⟨some 7,.ld false 1 (.tmp 6),none⟩,
   ⟨some 8,.call 122 [(.tmp 7),(.cst (.d (.int .i64 1))),(.cst (.d (.int .i64 10000)))],none⟩,
   ⟨some 9,.fad 1 (.tmp 1),none⟩,
   ⟨some 10,.ld false 1 (.tmp 9),none⟩,
   ⟨some 11,.len (.tmp 10),none⟩,
   ⟨some 12,.cmp .eql (.tmp 11) (.cst (.d (.int .i64 0))),none⟩,
   ⟨some 13,.call 103 [(.tmp 12),(.cst (.d (.int .i64 12)))],none⟩,
   ⟨some 14,.fad 1 (.tmp 1),none⟩,
   ⟨some 15,.ld false 1 (.tmp 14),none⟩,
   ⟨some 16,.len (.tmp 15),none⟩,
   ⟨some 17,.cmp .gtr (.tmp 16) (.cst (.d (.int .i64 16))),none⟩,
   ⟨some 18,.call 103 [(.tmp 17),(.cst (.d (.int .i64 5)))],none⟩,
   ⟨some 19,.bsl 1 32 1 3 [(.int .i64 0),(.int .i64 0),(.int .i64 0)] [(0,(.tmp 8)),(1,(.tmp 13)),(2,(.tmp 18))],none⟩,
   ⟨some 20,.call 99 [(.tmp 19)],none⟩,
   ⟨some 4,.mov (.tmp 20),none⟩] [(0,3),(1,3),(2,3),(0,4),(1,4),(2,4),(0,5),(1,5),(2,5),(0,6),(1,6),(2,6),(0,8),(1,8),(2,8),(3,8),(4,8),(5,8),(6,8),(7,8),(0,9),(1,9),(2,9),(3,9),(4,9),(5,9),(6,9),(7,9),(0,10),(1,10),(2,10),(3,10),(4,10),(5,10),(6,10),(7,10),(0,11),(1,11),(2,11),(3,11),(4,11),(5,11),(6,11),(7,11)])
  (.seq
   (.reg [] [⟨some 21,.mov (.tmp 4),none⟩,
    ⟨some 22,.cmp .neq (.tmp 21) (.cst (.d (.int .i64 0))),none⟩])
   (.cond (.tmp 22)
   (.seq
    (.reg [] [⟨some 23,.mov (.tmp 4),none⟩,
     ⟨some 2,.mov (.cst (.d (.int .i64 0))),none⟩,
     ⟨some 3,.mov (.tmp 23),none⟩])
    .ret)
   .skip)))
  (.seq
  (.seq
   (.reg [] [⟨some 24,.fad 1 (.tmp 1),none⟩,
    ⟨some 25,.ld false 1 (.tmp 24),none⟩,
    ⟨some 26,.call 138 [(.tmp 25),(.cst (.d (.fn (.func 139) [])))],none⟩,
    ⟨some 27,.call 99 [(.tmp 26)],none⟩,
    ⟨some 5,.mov (.tmp 27),none⟩])
   (.seq
   (.reg [] [⟨some 28,.mov (.tmp 5),none⟩,
    ⟨some 29,.cmp .neq (.tmp 28) (.cst (.d (.int .i64 0))),none⟩])
   (.cond (.tmp 29)
    (.seq
    (.reg [] [⟨some 30,.mov (.tmp 5),none⟩,
     ⟨some 2,.mov (.cst (.d (.int .i64 0))),none⟩,
     ⟨some 3,.mov (.tmp 30),none⟩])
    .ret)
    .skip)))
  (.seq
   (.reg [] [⟨some 31,.fad 1 (.tmp 1),none⟩,
    ⟨some 32,.ld false 1 (.tmp 31),none⟩,
    ⟨some 33,.call 140 [(.tmp 32)],none⟩,
    ⟨some 2,.mov (.tmp 33),none⟩,
    ⟨some 3,.mov (.cst (.d (.int .i64 0))),none⟩])
   .ret))))⟩
def jr74:AFun:=⟨40,2,[.tmp 2],
 (.seq
 (.reg [0] [⟨some 1,.cbx 0 2 (.tmp 0),none⟩,
  ⟨some 2,.mov (.cst (.d (.int .i64 0))),none⟩])
 (.seq
  (.seq
  (.regd [1] [⟨some 6,.fad 0 (.tmp 1),none⟩,
   ⟨some 7,.ld false 1 (.tmp 6),none⟩,
   ⟨some 8,.call 112 [(.tmp 7),(.cst (.d (.int .i64 1))),(.cst (.d (.int .i64 10000)))],none⟩,
   ⟨some 9,.fad 1 (.tmp 1),none⟩,
   ⟨some 10,.ld false 1 (.tmp 9),none⟩,
   ⟨some 11,.len (.tmp 10),none⟩,
   ⟨some 12,.cmp .eql (.tmp 11) (.cst (.d (.int .i64 0))),none⟩,
   ⟨some 13,.call 22 [(.tmp 12),(.cst (.d (.int .i64 12)))],none⟩,
   ⟨some 14,.fad 1 (.tmp 1),none⟩,
   ⟨some 15,.ld false 1 (.tmp 14),none⟩,
   ⟨some 16,.len (.tmp 15),none⟩,
   ⟨some 17,.cmp .gtr (.tmp 16) (.cst (.d (.int .i64 16))),none⟩,
   ⟨some 18,.call 22 [(.tmp 17),(.cst (.d (.int .i64 5)))],none⟩,
   ⟨some 19,.bsl 1 3 1 3 [(.int .i64 0),(.int .i64 0),(.int .i64 0)] [(0,(.tmp 8)),(1,(.tmp 13)),(2,(.tmp 18))],none⟩,
   ⟨some 20,.call 110 [(.tmp 19)],none⟩,
   ⟨some 3,.mov (.tmp 20),none⟩] [(0,3),(1,3),(2,3),(0,4),(1,4),(2,4),(0,5),(1,5),(2,5),(0,6),(1,6),(2,6),(0,8),(1,8),(2,8),(3,8),(4,8),(5,8),(6,8),(7,8),(0,9),(1,9),(2,9),(3,9),(4,9),(5,9),(6,9),(7,9),(0,10),(1,10),(2,10),(3,10),(4,10),(5,10),(6,10),(7,10),(0,11),(1,11),(2,11),(3,11),(4,11),(5,11),(6,11),(7,11)])
  (.seq
   (.reg [] [⟨some 21,.mov (.tmp 3),none⟩,
    ⟨some 22,.cmp .neq (.tmp 21) (.cst (.d (.int .i64 0))),none⟩])
   (.cond (.tmp 22)
   (.seq
    (.reg [] [⟨some 23,.mov (.tmp 3),none⟩,
     ⟨some 2,.mov (.tmp 23),none⟩])
    .ret)
   .skip)))
  (.seq
  (.seq
   (.reg [] [⟨some 4,.mov (.cst (.d (.int .i64 0))),none⟩])
   (.post [] [0,1]
   (.block 0
    (.keep [1,4] [0,1]
    (.loop
     (.post [1,4] []
     (.seq
      (.seq
      (.reg [] [⟨some 24,.mov (.tmp 4),none⟩,
       ⟨some 25,.fad 1 (.tmp 1),none⟩,
       ⟨some 26,.ld false 1 (.tmp 25),none⟩,
       ⟨some 27,.len (.tmp 26),none⟩,
       ⟨some 28,.cmp .lss (.tmp 24) (.tmp 27),none⟩])
      (.cond (.tmp 28)
       .skip
       (.exit 0)))
      (.seq
      (.block 1
       (.seq
       (.reg [] [⟨some 31,.fad 1 (.tmp 1),none⟩,
        ⟨some 32,.ld false 1 (.tmp 31),none⟩,
        ⟨some 33,.mov (.tmp 4),none⟩,
        ⟨some 34,.ixa 1 (.tmp 32) (.tmp 33),none⟩,
        ⟨some 35,.ld false 1 (.tmp 34),none⟩,
        ⟨some 36,.call 145 [(.tmp 35)],none⟩,
        ⟨some 5,.mov (.tmp 36),none⟩])
       (.seq
        (.reg [] [⟨some 37,.mov (.tmp 5),none⟩,
         ⟨some 38,.cmp .neq (.tmp 37) (.cst (.d (.int .i64 0))),none⟩])
        (.cond (.tmp 38)
        (.seq
         (.reg [] [⟨some 39,.mov (.tmp 5),none⟩,
          ⟨some 2,.mov (.tmp 39),none⟩])
         .ret)
        .skip))))
      (.reg [] [⟨some 29,.mov (.tmp 4),none⟩,
       ⟨some 30,.arith .add .i64 (.tmp 29) (.cst (.d (.int .i64 1))),none⟩,
       ⟨some 4,.mov (.tmp 30),none⟩])))))))))
  (.seq
   (.reg [] [⟨some 2,.mov (.cst (.d (.int .i64 0))),none⟩])
   .ret))))⟩
def jr150:AFun:=⟨56,1,[.tmp 2],
 (.seq
 (.reg [0] [⟨some 1,.cbx 0 7 (.tmp 0),none⟩,
  ⟨some 2,.mov (.cst (.d (.bool false))),none⟩])
 (.seq
  (.block 0
  (.seq
   (.reg [] [⟨some 4,.fad 2 (.tmp 1),none⟩,
    ⟨some 5,.ld false 1 (.tmp 4),none⟩,
    ⟨some 6,.cmp .eql (.tmp 5) (.cst (.d (.int .i64 0))),none⟩,
    ⟨some 3,.mov (.tmp 6),none⟩])
   (.cond (.tmp 3)
   (.seq
    (.reg [] [⟨some 7,.fad 4 (.tmp 1),none⟩,
     ⟨some 8,.ld false 1 (.tmp 7),none⟩,
     ⟨some 9,.len (.tmp 8),none⟩,
     ⟨some 10,.cmp .eql (.tmp 9) (.cst (.d (.int .i64 0))),none⟩,
     ⟨some 11,.mov (.tmp 10),none⟩,
     ⟨some 12,.fad 3 (.tmp 1),some (11,true)⟩,
     ⟨some 13,.ld false 1 (.tmp 12),some (11,true)⟩,
     ⟨some 14,.cmp .eql (.tmp 13) (.cst (.d (.int .i64 0))),some (11,true)⟩,
     ⟨some 15,.pick (.tmp 11) (.tmp 14) (.cst (.d (.bool false))),none⟩,
     ⟨some 16,.mov (.tmp 15),none⟩,
     ⟨some 17,.fad 5 (.tmp 1),some (16,true)⟩,
     ⟨some 18,.ld false 1 (.tmp 17),some (16,true)⟩,
     ⟨some 19,.not (.tmp 18),some (16,true)⟩,
     ⟨some 20,.pick (.tmp 16) (.tmp 19) (.cst (.d (.bool false))),none⟩,
     ⟨some 21,.mov (.tmp 20),none⟩,
     ⟨some 22,.fad 6 (.tmp 1),some (21,true)⟩,
     ⟨some 23,.ld false 1 (.tmp 22),some (21,true)⟩,
     ⟨some 24,.not (.tmp 23),some (21,true)⟩,
     ⟨some 25,.pick (.tmp 21) (.tmp 24) (.cst (.d (.bool false))),none⟩,
     ⟨some 2,.mov (.tmp 25),none⟩])
    .ret)
   (.seq
    (.reg [] [⟨some 27,.fad 4 (.tmp 1),none⟩,
     ⟨some 28,.ld false 1 (.tmp 27),none⟩,
     ⟨some 29,.len (.tmp 28),none⟩,
     ⟨some 30,.cmp .eql (.tmp 29) (.cst (.d (.int .i64 0))),none⟩,
     ⟨some 31,.mov (.tmp 30),none⟩,
     ⟨some 32,.fad 5 (.tmp 1),some (31,false)⟩,
     ⟨some 33,.ld false 1 (.tmp 32),some (31,false)⟩,
     ⟨some 34,.mov (.tmp 33),some (31,false)⟩,
     ⟨some 35,.ld true 7 (.tmp 1),some (34,true)⟩,
     ⟨some 36,.call 143 [(.tmp 35)],some (34,true)⟩,
     ⟨some 37,.pick (.tmp 34) (.tmp 36) (.cst (.d (.bool false))),some (31,false)⟩,
     ⟨some 38,.pick (.tmp 31) (.cst (.d (.bool true))) (.tmp 37),none⟩,
     ⟨some 26,.mov (.tmp 38),none⟩])
    (.cond (.tmp 26)
    (.seq
     (.reg [] [⟨some 2,.mov (.cst (.d (.bool false))),none⟩])
     .ret)
    (.seq
     (.reg [] [⟨some 40,.fad 6 (.tmp 1),none⟩,
      ⟨some 41,.ld false 1 (.tmp 40),none⟩,
      ⟨some 39,.mov (.tmp 41),none⟩])
     (.cond (.tmp 39)
     (.seq
      (.reg [] [⟨some 42,.fad 2 (.tmp 1),none⟩,
       ⟨some 43,.ld false 1 (.tmp 42),none⟩,
       ⟨some 44,.fad 0 (.tmp 1),none⟩,
       ⟨some 45,.ld false 1 (.tmp 44),none⟩,
       ⟨some 46,.cmp .eql (.tmp 43) (.tmp 45),none⟩,
       ⟨some 47,.mov (.tmp 46),none⟩,
       ⟨some 48,.fad 5 (.tmp 1),some (47,true)⟩,
       ⟨some 49,.ld false 1 (.tmp 48),some (47,true)⟩,
       ⟨some 50,.pick (.tmp 47) (.tmp 49) (.cst (.d (.bool false))),none⟩,
       ⟨some 2,.mov (.tmp 50),none⟩])
      .ret)
     .skip)))))))
  (.seq
  (.reg [] [⟨some 51,.fad 2 (.tmp 1),none⟩,
   ⟨some 52,.ld false 1 (.tmp 51),none⟩,
   ⟨some 53,.fad 0 (.tmp 1),none⟩,
   ⟨some 54,.ld false 1 (.tmp 53),none⟩,
   ⟨some 55,.cmp .gtr (.tmp 52) (.tmp 54),none⟩,
   ⟨some 2,.mov (.tmp 55),none⟩])
  .ret)))⟩
def jr83:AFun:=⟨57,3,[.tmp 2],
 (.seq
 (.reg [0] [⟨some 1,.cbx 0 7 (.tmp 0),none⟩,
  ⟨some 2,.mov (.cst (.d (.int .i64 0))),none⟩])
 (.seq
  (.reg [] [⟨some 3,.mov (.cst (.d (.fn (.func 147) []))),none⟩])
  (.seq
  (.seq
   (.regd [1] [⟨some 7,.mov (.tmp 3),none⟩,
    ⟨some 8,.fad 0 (.tmp 1),none⟩,
    ⟨some 9,.ld false 1 (.tmp 8),none⟩,
    ⟨some 10,.callv (.tmp 7) [(.tmp 9)],none⟩,
    ⟨some 11,.mov (.tmp 3),none⟩,
    ⟨some 12,.fad 1 (.tmp 1),none⟩,
    ⟨some 13,.ld false 1 (.tmp 12),none⟩,
    ⟨some 14,.callv (.tmp 11) [(.tmp 13)],none⟩,
    ⟨some 15,.mov (.tmp 3),none⟩,
    ⟨some 16,.fad 2 (.tmp 1),none⟩,
    ⟨some 17,.ld false 1 (.tmp 16),none⟩,
    ⟨some 18,.callv (.tmp 15) [(.tmp 17)],none⟩,
    ⟨some 19,.fad 4 (.tmp 1),none⟩,
    ⟨some 20,.ld false 1 (.tmp 19),none⟩,
    ⟨some 21,.len (.tmp 20),none⟩,
    ⟨some 22,.cmp .gtr (.tmp 21) (.cst (.d (.int .i64 16))),none⟩,
    ⟨some 23,.call 103 [(.tmp 22),(.cst (.d (.int .i64 5)))],none⟩,
    ⟨some 24,.bsl 1 32 1 4 [(.int .i64 0),(.int .i64 0),(.int .i64 0),(.int .i64 0)] [(0,(.tmp 10)),(1,(.tmp 14)),(2,(.tmp 18)),(3,(.tmp 23))],none⟩,
    ⟨some 25,.call 99 [(.tmp 24)],none⟩,
    ⟨some 4,.mov (.tmp 25),none⟩] [(0,1),(0,2),(0,4),(1,4),(2,4),(3,4),(0,5),(1,5),(2,5),(3,5),(4,5),(0,6),(1,6),(2,6),(3,6),(4,6),(0,8),(1,8),(2,8),(3,8),(4,8),(5,8),(6,8),(7,8),(0,9),(1,9),(2,9),(3,9),(4,9),(5,9),(6,9),(7,9),(8,9),(0,10),(1,10),(2,10),(3,10),(4,10),(5,10),(6,10),(7,10),(8,10),(0,12),(1,12),(2,12),(3,12),(4,12),(5,12),(6,12),(7,12),(8,12),(9,12),(10,12),(11,12),(0,13),(1,13),(2,13),(3,13),(4,13),(5,13),(6,13),(7,13),(8,13),(9,13),(10,13),(11,13),(0,14),(1,14),(2,14),(3,14),(4,14),(5,14),(6,14),(7,14),(8,14),(9,14),(10,14),(11,14),(0,15),(1,15),(2,15),(3,15),(4,15),(5,15),(6,15),(7,15),(8,15),(9,15),(10,15),(11,15)])
   (.seq
   (.reg [] [⟨some 26,.mov (.tmp 4),none⟩,
    ⟨some 27,.cmp .neq (.tmp 26) (.cst (.d (.int .i64 0))),none⟩])
   (.cond (.tmp 27)
    (.seq
    (.reg [] [⟨some 28,.mov (.tmp 4),none⟩,
     ⟨some 2,.mov (.tmp 28),none⟩])
    .ret)
    .skip)))
  (.seq
   (.reg [] [⟨some 29,.fad 4 (.tmp 1),none⟩,
    ⟨some 30,.ld false 1 (.tmp 29),none⟩,
    ⟨some 31,.call 148 [(.tmp 30),(.cst (.d (.fn (.func 149) [])))],none⟩,
    ⟨some 5,.mov (.tmp 31),none⟩])
   (.seq
   (.seq
    (.regd [2] [⟨some 32,.mov (.tmp 5),none⟩,
     ⟨some 33,.call 103 [(.tmp 32),(.cst (.d (.int .i64 4)))],none⟩,
     ⟨some 34,.fad 3 (.tmp 1),none⟩,
     ⟨some 35,.ld false 1 (.tmp 34),none⟩,
     ⟨some 36,.call 122 [(.tmp 35),(.cst (.d (.int .i64 0))),(.cst (.d (.int .i64 9972)))],none⟩,
     ⟨some 37,.ld true 7 (.tmp 1),none⟩,
     ⟨some 38,.call 150 [(.tmp 37)],none⟩,
     ⟨some 39,.not (.tmp 38),none⟩,
     ⟨some 40,.call 103 [(.tmp 39),(.cst (.d (.int .i64 22)))],none⟩,
     ⟨some 41,.bsl 2 32 1 3 [(.int .i64 0),(.int .i64 0),(.int .i64 0)] [(0,(.tmp 33)),(1,(.tmp 36)),(2,(.tmp 40))],none⟩,
     ⟨some 42,.call 99 [(.tmp 41)],none⟩,
     ⟨some 6,.mov (.tmp 42),none⟩] [(0,2),(1,2),(0,3),(1,3),(0,5),(1,5),(2,5),(3,5),(4,5)])
    (.seq
    (.reg [] [⟨some 43,.mov (.tmp 6),none⟩,
     ⟨some 44,.cmp .neq (.tmp 43) (.cst (.d (.int .i64 0))),none⟩])
    (.cond (.tmp 44)
     (.seq
     (.reg [] [⟨some 45,.mov (.tmp 6),none⟩,
      ⟨some 2,.mov (.tmp 45),none⟩])
     .ret)
     .skip)))
   (.seq
    (.regd [] [⟨some 46,.fad 5 (.tmp 1),none⟩,
     ⟨some 47,.ld false 1 (.tmp 46),none⟩,
     ⟨some 48,.mov (.tmp 47),none⟩,
     ⟨some 49,.fad 4 (.tmp 1),some (48,true)⟩,
     ⟨some 50,.ld false 1 (.tmp 49),some (48,true)⟩,
     ⟨some 51,.call 140 [(.tmp 50)],some (48,true)⟩,
     ⟨some 52,.fad 3 (.tmp 1),some (48,true)⟩,
     ⟨some 53,.ld false 1 (.tmp 52),some (48,true)⟩,
     ⟨some 54,.cmp .neq (.tmp 51) (.tmp 53),some (48,true)⟩,
     ⟨some 55,.pick (.tmp 48) (.tmp 54) (.cst (.d (.bool false))),none⟩,
     ⟨some 56,.call 103 [(.tmp 55),(.cst (.d (.int .i64 27)))],none⟩,
     ⟨some 2,.mov (.tmp 56),none⟩] [(3,6),(4,6),(5,6),(3,7),(4,7),(5,7)])
    .ret))))))⟩
def jr68:AFun:=⟨19,2,[.cell 2 7 true],
 (.seq
 (.reg [0,1] [⟨some 1,.cbx 0 7 (.tmp 0),none⟩,
  ⟨some 2,.alloc 1 [(.d (.int .i64 0)),(.d (.int .i64 0)),(.d (.int .i64 0)),(.d (.int .i64 0)),(.nils 1),(.d (.bool false)),(.d (.bool false))],none⟩])
 (.seq
  (.regd [] [⟨some 3,.fad 0 (.tmp 1),none⟩,
   ⟨some 4,.ld false 1 (.tmp 3),none⟩,
   ⟨some 5,.fad 1 (.tmp 1),none⟩,
   ⟨some 6,.ld false 1 (.tmp 5),none⟩,
   ⟨some 7,.fad 2 (.tmp 1),none⟩,
   ⟨some 8,.ld false 1 (.tmp 7),none⟩,
   ⟨some 9,.fad 3 (.tmp 1),none⟩,
   ⟨some 10,.ld false 1 (.tmp 9),none⟩,
   ⟨some 11,.fad 4 (.tmp 1),none⟩,
   ⟨some 12,.ld false 1 (.tmp 11),none⟩,
   ⟨some 13,.call 66 [(.tmp 12)],none⟩,
   ⟨some 14,.fad 5 (.tmp 1),none⟩,
   ⟨some 15,.ld false 1 (.tmp 14),none⟩,
   ⟨some 16,.fad 6 (.tmp 1),none⟩,
   ⟨some 17,.ld false 1 (.tmp 16),none⟩,
   ⟨some 18,.build [(.d (.int .i64 0)),(.d (.int .i64 0)),(.d (.int .i64 0)),(.d (.int .i64 0)),(.nils 1),(.d (.bool false)),(.d (.bool false))] [(0,1,(.tmp 4)),(1,1,(.tmp 6)),(2,1,(.tmp 8)),(3,1,(.tmp 10)),(4,1,(.tmp 13)),(5,1,(.tmp 15)),(6,1,(.tmp 17))],none⟩,
   ⟨none,.st 7 (.tmp 2) (.tmp 18),none⟩] [(0,2),(1,2),(0,3),(1,3),(0,4),(1,4),(2,4),(3,4),(0,5),(1,5),(2,5),(3,5),(0,6),(1,6),(2,6),(3,6),(4,6),(5,6),(0,7),(1,7),(2,7),(3,7),(4,7),(5,7),(0,8),(1,8),(2,8),(3,8),(4,8),(5,8),(6,8),(7,8),(0,9),(1,9),(2,9),(3,9),(4,9),(5,9),(6,9),(7,9),(0,10),(1,10),(2,10),(3,10),(4,10),(5,10),(6,10),(7,10),(0,11),(1,11),(2,11),(3,11),(4,11),(5,11),(6,11),(7,11),(8,11),(9,11),(10,11),(0,12),(1,12),(2,12),(3,12),(4,12),(5,12),(6,12),(7,12),(8,12),(9,12),(10,12),(0,13),(1,13),(2,13),(3,13),(4,13),(5,13),(6,13),(7,13),(8,13),(9,13),(10,13),(11,13),(12,13),(0,14),(1,14),(2,14),(3,14),(4,14),(5,14),(6,14),(7,14),(8,14),(9,14),(10,14),(11,14),(12,14)])
  .ret))⟩
def jr142:AFun:=⟨27,3,[.cell 2 7 true],
 (.seq
 (.reg [0,1] [⟨some 1,.box 0 7 (.tmp 0),none⟩,
  ⟨some 2,.alloc 1 [(.d (.int .i64 0)),(.d (.int .i64 0)),(.d (.int .i64 0)),(.d (.int .i64 0)),(.nils 1),(.d (.bool false)),(.d (.bool false))],none⟩])
 (.seq
  (.reg [2] [⟨some 5,.fad 4 (.tmp 1),none⟩,
   ⟨some 6,.ld false 1 (.tmp 5),none⟩,
   ⟨some 7,.len (.tmp 6),none⟩,
   ⟨some 8,.msl 2 111 1 24 (.slice 1 []) (.tmp 7),none⟩,
   ⟨some 3,.mov (.tmp 8),none⟩])
  (.seq
  (.seq
   (.reg [] [⟨some 9,.mov (.tmp 3),none⟩,
    ⟨some 10,.len (.tmp 9),none⟩,
    ⟨some 11,.mov (.cst (.d (.int .i64 0))),none⟩])
   (.post [1,2,3] [0,1,2]
   (.block 0
    (.keep [1,2,3,10,11] [0,1,2]
    (.loop
     (.post [1,2,3,10,11] []
     (.seq
      (.reg [] [⟨some 12,.cmp .lss (.tmp 11) (.tmp 10),none⟩])
      (.seq
      (.cond (.tmp 12)
       .skip
       (.exit 0))
      (.seq
       (.block 1
       (.seq
        (.reg [] [⟨some 13,.mov (.tmp 11),none⟩,
         ⟨some 4,.mov (.tmp 13),none⟩])
        (.reg [] [⟨some 14,.mov (.tmp 3),none⟩,
         ⟨some 15,.mov (.tmp 4),none⟩,
         ⟨some 16,.fad 4 (.tmp 1),none⟩,
         ⟨some 17,.ld false 1 (.tmp 16),none⟩,
         ⟨some 18,.mov (.tmp 4),none⟩,
         ⟨some 19,.ixa 1 (.tmp 17) (.tmp 18),none⟩,
         ⟨some 20,.ld false 1 (.tmp 19),none⟩,
         ⟨some 21,.call 176 [(.tmp 20)],none⟩,
         ⟨some 22,.ixa 1 (.tmp 14) (.tmp 15),none⟩,
         ⟨none,.st 1 (.tmp 22) (.tmp 21),none⟩])))
       (.reg [] [⟨some 23,.arith .add .i64 (.tmp 11) (.cst (.d (.int .i64 1))),none⟩,
        ⟨some 11,.mov (.tmp 23),none⟩]))))))))))
  (.seq
   (.reg [] [⟨some 24,.mov (.tmp 3),none⟩,
    ⟨some 25,.fad 4 (.tmp 1),none⟩,
    ⟨none,.st 1 (.tmp 25) (.tmp 24),none⟩])
   (.seq
   (.reg [] [⟨some 26,.ld true 7 (.tmp 1),none⟩,
    ⟨none,.st 7 (.tmp 2) (.tmp 26),none⟩])
   .ret)))))⟩
def jr152:AFun:=⟨18,2,[.cell 2 7 true],
 (.seq
 (.reg [0,1] [⟨some 1,.cbx 0 7 (.tmp 0),none⟩,
  ⟨some 2,.alloc 1 [(.d (.int .i64 0)),(.d (.int .i64 0)),(.d (.int .i64 0)),(.d (.int .i64 0)),(.nils 1),(.d (.bool false)),(.d (.bool false))],none⟩])
 (.seq
  (.reg [] [⟨some 3,.fad 0 (.tmp 1),none⟩,
   ⟨some 4,.ld false 1 (.tmp 3),none⟩,
   ⟨some 5,.fad 1 (.tmp 1),none⟩,
   ⟨some 6,.ld false 1 (.tmp 5),none⟩,
   ⟨some 7,.fad 2 (.tmp 1),none⟩,
   ⟨some 8,.ld false 1 (.tmp 7),none⟩,
   ⟨some 9,.fad 3 (.tmp 1),none⟩,
   ⟨some 10,.ld false 1 (.tmp 9),none⟩,
   ⟨some 11,.fad 4 (.tmp 1),none⟩,
   ⟨some 12,.ld false 1 (.tmp 11),none⟩,
   ⟨some 13,.fad 5 (.tmp 1),none⟩,
   ⟨some 14,.ld false 1 (.tmp 13),none⟩,
   ⟨some 15,.fad 6 (.tmp 1),none⟩,
   ⟨some 16,.ld false 1 (.tmp 15),none⟩,
   ⟨some 17,.build [(.d (.int .i64 0)),(.d (.int .i64 0)),(.d (.int .i64 0)),(.d (.int .i64 0)),(.nils 1),(.d (.bool false)),(.d (.bool false))] [(0,1,(.tmp 4)),(1,1,(.tmp 6)),(2,1,(.tmp 8)),(3,1,(.tmp 10)),(4,1,(.tmp 12)),(5,1,(.tmp 14)),(6,1,(.tmp 16))],none⟩,
   ⟨none,.st 7 (.tmp 2) (.tmp 17),none⟩])
  .ret))⟩
def jr151:AFun:=⟨74,2,[.tmp 4],
 (.seq
 (.reg [0,1] [⟨some 2,.cbx 0 7 (.tmp 0),none⟩,
  ⟨some 3,.cbx 1 7 (.tmp 1),none⟩,
  ⟨some 4,.mov (.cst (.d (.bool false))),none⟩])
 (.seq
  (.seq
  (.reg [] [⟨some 6,.fad 0 (.tmp 2),none⟩,
   ⟨some 7,.ld false 1 (.tmp 6),none⟩,
   ⟨some 8,.fad 0 (.tmp 3),none⟩,
   ⟨some 9,.ld false 1 (.tmp 8),none⟩,
   ⟨some 10,.cmp .neq (.tmp 7) (.tmp 9),none⟩,
   ⟨some 11,.mov (.tmp 10),none⟩,
   ⟨some 12,.fad 1 (.tmp 2),some (11,false)⟩,
   ⟨some 13,.ld false 1 (.tmp 12),some (11,false)⟩,
   ⟨some 14,.fad 1 (.tmp 3),some (11,false)⟩,
   ⟨some 15,.ld false 1 (.tmp 14),some (11,false)⟩,
   ⟨some 16,.cmp .neq (.tmp 13) (.tmp 15),some (11,false)⟩,
   ⟨some 17,.pick (.tmp 11) (.cst (.d (.bool true))) (.tmp 16),none⟩,
   ⟨some 18,.mov (.tmp 17),none⟩,
   ⟨some 19,.fad 2 (.tmp 2),some (18,false)⟩,
   ⟨some 20,.ld false 1 (.tmp 19),some (18,false)⟩,
   ⟨some 21,.fad 2 (.tmp 3),some (18,false)⟩,
   ⟨some 22,.ld false 1 (.tmp 21),some (18,false)⟩,
   ⟨some 23,.cmp .neq (.tmp 20) (.tmp 22),some (18,false)⟩,
   ⟨some 24,.pick (.tmp 18) (.cst (.d (.bool true))) (.tmp 23),none⟩,
   ⟨some 25,.mov (.tmp 24),none⟩,
   ⟨some 26,.fad 3 (.tmp 2),some (25,false)⟩,
   ⟨some 27,.ld false 1 (.tmp 26),some (25,false)⟩,
   ⟨some 28,.fad 3 (.tmp 3),some (25,false)⟩,
   ⟨some 29,.ld false 1 (.tmp 28),some (25,false)⟩,
   ⟨some 30,.cmp .neq (.tmp 27) (.tmp 29),some (25,false)⟩,
   ⟨some 31,.pick (.tmp 25) (.cst (.d (.bool true))) (.tmp 30),none⟩,
   ⟨some 32,.mov (.tmp 31),none⟩,
   ⟨some 33,.fad 5 (.tmp 2),some (32,false)⟩,
   ⟨some 34,.ld false 1 (.tmp 33),some (32,false)⟩,
   ⟨some 35,.fad 5 (.tmp 3),some (32,false)⟩,
   ⟨some 36,.ld false 1 (.tmp 35),some (32,false)⟩,
   ⟨some 37,.beq true (.tmp 34) (.tmp 36),some (32,false)⟩,
   ⟨some 38,.pick (.tmp 32) (.cst (.d (.bool true))) (.tmp 37),none⟩,
   ⟨some 39,.mov (.tmp 38),none⟩,
   ⟨some 40,.fad 6 (.tmp 2),some (39,false)⟩,
   ⟨some 41,.ld false 1 (.tmp 40),some (39,false)⟩,
   ⟨some 42,.fad 6 (.tmp 3),some (39,false)⟩,
   ⟨some 43,.ld false 1 (.tmp 42),some (39,false)⟩,
   ⟨some 44,.beq true (.tmp 41) (.tmp 43),some (39,false)⟩,
   ⟨some 45,.pick (.tmp 39) (.cst (.d (.bool true))) (.tmp 44),none⟩,
   ⟨some 46,.mov (.tmp 45),none⟩,
   ⟨some 47,.fad 4 (.tmp 2),some (46,false)⟩,
   ⟨some 48,.ld false 1 (.tmp 47),some (46,false)⟩,
   ⟨some 49,.len (.tmp 48),some (46,false)⟩,
   ⟨some 50,.fad 4 (.tmp 3),some (46,false)⟩,
   ⟨some 51,.ld false 1 (.tmp 50),some (46,false)⟩,
   ⟨some 52,.len (.tmp 51),some (46,false)⟩,
   ⟨some 53,.cmp .neq (.tmp 49) (.tmp 52),some (46,false)⟩,
   ⟨some 54,.pick (.tmp 46) (.cst (.d (.bool true))) (.tmp 53),none⟩])
  (.cond (.tmp 54)
   (.seq
   (.reg [] [⟨some 4,.mov (.cst (.d (.bool false))),none⟩])
   .ret)
   .skip))
  (.seq
  (.seq
   (.reg [] [⟨some 5,.mov (.cst (.d (.int .i64 0))),none⟩])
   (.post [] [0,1]
   (.block 0
    (.keep [2,3,5] [0,1]
    (.loop
     (.post [2,3,5] []
     (.seq
      (.seq
      (.reg [] [⟨some 55,.mov (.tmp 5),none⟩,
       ⟨some 56,.fad 4 (.tmp 2),none⟩,
       ⟨some 57,.ld false 1 (.tmp 56),none⟩,
       ⟨some 58,.len (.tmp 57),none⟩,
       ⟨some 59,.cmp .lss (.tmp 55) (.tmp 58),none⟩])
      (.cond (.tmp 59)
       .skip
       (.exit 0)))
      (.seq
      (.block 1
       (.seq
       (.regd [] [⟨some 62,.fad 4 (.tmp 2),none⟩,
        ⟨some 63,.ld false 1 (.tmp 62),none⟩,
        ⟨some 64,.mov (.tmp 5),none⟩,
        ⟨some 65,.ixa 1 (.tmp 63) (.tmp 64),none⟩,
        ⟨some 66,.ld false 1 (.tmp 65),none⟩,
        ⟨some 67,.fad 4 (.tmp 3),none⟩,
        ⟨some 68,.ld false 1 (.tmp 67),none⟩,
        ⟨some 69,.mov (.tmp 5),none⟩,
        ⟨some 70,.ixa 1 (.tmp 68) (.tmp 69),none⟩,
        ⟨some 71,.ld false 1 (.tmp 70),none⟩,
        ⟨some 72,.call 179 [(.tmp 66),(.tmp 71)],none⟩,
        ⟨some 73,.not (.tmp 72),none⟩] [(0,2),(1,2),(0,5),(1,5),(2,5),(3,5),(4,5),(0,6),(1,6),(2,6),(3,6),(4,6),(0,7),(1,7),(2,7),(3,7),(4,7),(5,7),(6,7),(0,8),(1,8),(2,8),(3,8),(4,8),(0,9),(1,9),(2,9),(3,9),(4,9)])
       (.cond (.tmp 73)
        (.seq
        (.reg [] [⟨some 4,.mov (.cst (.d (.bool false))),none⟩])
        .ret)
        .skip)))
      (.reg [] [⟨some 60,.mov (.tmp 5),none⟩,
       ⟨some 61,.arith .add .i64 (.tmp 60) (.cst (.d (.int .i64 1))),none⟩,
       ⟨some 5,.mov (.tmp 61),none⟩])))))))))
  (.seq
   (.reg [] [⟨some 4,.mov (.cst (.d (.bool true))),none⟩])
   .ret))))⟩
theorem c65 (v:Int) (l:List (List UInt8)) (hl:l.length≤1048576) (hs:l.flatten.length≤1048576):CallDet Tryz.prog 65 [.d (.agg [.int .i64 v,.slice 1 (pss l)])] [.int .i64 (bif progE v l != 0 then 0 else psum l),.int .i64 (progE v l)]:=by
 have hll:=pss_len l
 have c99_:CallDet Tryz.prog 99 [.d (.slice 1 [.int .i64 (within3 v 1 10000),.int .i64 (bif ((pss l).length:Int)==0 then 12 else 0),.int .i64 (bif decide ((16:Int) < ((pss l).length:Int)) then 5 else 0)])] [.int .i64 (progA v l)]:=by
  rw [hll]; exact c99 [within3 v 1 10000,bif (l.length:Int)==0 then 12 else 0,bif decide ((16:Int) < (l.length:Int)) then 5 else 0] (by simp)
 have c138_:=c138 l hl 139 chkP (fun x hx=>c139 x (by have:=flat_mem hx; omega))
 have c99_b:CallDet Tryz.prog 99 [.d (.slice 1 (ints (l.map chkP)))] [.int .i64 (firstOf (l.map chkP))]:=c99 _ (by rw [List.length_map]; omega)
 have c140_:=c140 l hl hs
 refine call_of_vc (x:=jr65) (by kernel_rfl) rfl ?_
 have p1:progA v l≠0→progE v l=progA v l:=fun h=>by unfold progE; rw [bne_iff_ne.2 h]; rfl
 have p2:progA v l=0→progE v l=firstOf (l.map chkP):=fun h=>by unfold progE; rw [h]; rfl
 refine ca (c122 _ _ _) ?_
 refine sd ?_
 refine ca (c103 _ _) ?_
 refine sd ?_
 refine ca (c103 _ _) ?_
 refine sd ?_
 refine sd ?_
 refine ca c99_ ?_
 refine sd ?_
 refine b_ne (fun t1=>?_) (fun t1=>?_)
 rotate_left
 refine ca c138_ ?_
 refine ca c99_b ?_
 refine sd ?_
 refine b_ne (fun t2=>?_) (fun t2=>?_)
 rotate_left
 refine ca c140_ ?_
 rotate_left
 ·rw [p1 t1,bne_iff_ne.2 t1]; rfl
 ·rw [p2 t1,bne_iff_ne.2 t2]; rfl
 ·rw [p2 t1,t2]; rfl
theorem c74 (v:Int) (l:List (List UInt8)) (hl:l.length≤1048576) (hs:l.flatten.length≤1048576):CallDet Tryz.prog 74 [.d (.agg [.int .i64 v,.slice 1 (pss l)])] [.int .i64 (progE v l)]:=by
 have hll:=pss_len l
 have c110_:CallDet Tryz.prog 110 [.d (.slice 1 [.int .i64 (within3 v 1 10000),.int .i64 (bif ((pss l).length:Int)==0 then 12 else 0),.int .i64 (bif decide ((16:Int) < ((pss l).length:Int)) then 5 else 0)])] [.int .i64 (progA v l)]:=by
  rw [hll]; exact c110 [within3 v 1 10000,bif (l.length:Int)==0 then 12 else 0,bif decide ((16:Int) < (l.length:Int)) then 5 else 0] (by simp)
 refine call_of_vc (x:=jr74) (by kernel_rfl) rfl ?_
 have p1:progA v l≠0→progE v l=progA v l:=fun h=>by unfold progE; rw [bne_iff_ne.2 h]; rfl
 have p2:progA v l=0→progE v l=firstOf (l.map chkP):=fun h=>by unfold progE; rw [h]; rfl
 refine ca (c112 _ _ _) ?_
 refine sd ?_
 refine ca (c22 _ _) ?_
 refine sd ?_
 refine ca (c22 _ _) ?_
 refine sd ?_
 refine sd ?_
 refine ca c110_ ?_
 refine sd ?_
 refine b_ne (fun t1=>?_) (fun t1=>?_)
 rotate_left
 rotate_left
 ·show resV [.int .i64 (progA v l)]=resV [.int .i64 (progE v l)]
  rw [p1 t1]
 rw [p2 t1]
 refine loop_st (fun k:Nat=>⟨[(1,.ptr 0 0),(4,.d (.int .i64 k))],[.cbox [.int .i64 v,.slice 1 (pss l)],.none]⟩) (fun k=>k≤l.length∧firstOf (l.map chkP)=firstOf ((l.drop k).map chkP)) (fun k=>l.length - k) 0 rfl ⟨Nat.zero_le _,rfl⟩ ?_
 rintro k ⟨hk,hi⟩
 dsimp only
 by_cases hkn:k < l.length
 ·refine Exists.elim (get_lt l hkn) fun x hx=>?_
  have hx1:=pss_at hx
  have c145_:=c145 x (by have:=flat_mem (List.mem_of_getElem? hx); omega)
  rw [drop_at hx,List.map_cons,first_cons] at hi
  have fin:chkP x=0→∃ a':Nat,((a'≤l.length∧firstOf (l.map chkP)=firstOf ((l.drop a').map chkP))∧l.length - a' < l.length - k)∧(⟨[(1,.ptr 0 0),(4,.d (.int .i64 ((k:Int)+1)))],[.cbox [.int .i64 v,.slice 1 (pss l)],.none]⟩:St)=⟨[(1,.ptr 0 0),(4,.d (.int .i64 (a':Nat)))],[.cbox [.int .i64 v,.slice 1 (pss l)],.none]⟩:=fun h =>
   ⟨k+1,⟨⟨by omega,by rw [hi,h]; rfl⟩,by omega⟩,rfl⟩
  refine sd ?_
  refine b_lt (fun t2=>?_) (fun t2=>?_)
  refine ix_at hx1 ?_ ?_
  (show (0:Int)≤(↑k:Int); omega)
  refine ca c145_ ?_
  refine sd ?_
  refine b_ne (fun t3=>?_) (fun t3=>?_)
  rotate_left
  refine ar_add ?_ ?_
  refine an ?_ ?_
  (show (-9223372036854775808:Int)≤(↑k:Int)+(1:Int); omega)
  (show (↑k:Int)+(1:Int)≤(9223372036854775807:Int); omega)
  rotate_left
  (exfalso; omega)
  ·rw [hi,bne_iff_ne.2 t3]; rfl
  ·exact fin t3
 ·have e:l.drop k=[]:=List.drop_eq_nil_of_le (by omega)
  rw [e] at hi
  rw [hi]
  refine sd ?_
  refine b_lt (fun t2=>?_) (fun t2=>?_)
  (exfalso; omega)
  exact rfl
  all_goals rfl
theorem c150 (s:Sto) (h:s.ok):CallDet Tryz.prog 150 [.d s.d] [.bool (formedB s)]:=by
 have c143_:=c143 s h
 refine call_of_vc (x:=jr150) (by kernel_rfl) rfl ?_
 have hll:=pss_len s.ps
 unfold formedB
 rw [← hll]
 clear hll h
 refine sd ?_
 refine b_eq (fun t1=>?_) (fun t1=>?_)
 refine sd ?_
 refine b_eq (fun t2=>?_) (fun t2=>?_)
 refine sd ?_
 refine b_eq (fun t3=>?_) (fun t3=>?_)
 refine b_intro (fun t4=>?_) (fun t4=>?_)
 replace t4:(!Sto.ck s)=true:=t4
 rotate_left
 replace t4:(!Sto.ck s)=false:=t4
 refine sd ?_
 rotate_left
 refine sd ?_
 refine sd ?_
 rotate_left
 refine sd ?_
 refine sd ?_
 refine sd ?_
 rotate_left
 refine sd ?_
 refine b_eq (fun t5=>?_) (fun t5=>?_)
 refine sd ?_
 rotate_left
 refine b_intro (fun t6=>?_) (fun t6=>?_)
 refine ca c143_ ?_
 refine b_intro (fun t7=>?_) (fun t7=>?_)
 replace t7:miss (Sto.ps s)=true:=t7
 rotate_left
 replace t7:miss (Sto.ps s)=false:=t7
 refine b_intro (fun t8=>?_) (fun t8=>?_)
 refine sd ?_
 refine b_eq (fun t9=>?_) (fun t9=>?_)
 rotate_left
 refine sd ?_
 rotate_left
 refine sd ?_
 rotate_left
 refine sd ?_
 refine b_intro (fun t10=>?_) (fun t10=>?_)
 refine sd ?_
 refine b_eq (fun t11=>?_) (fun t11=>?_)
 rotate_left
 refine sd ?_
 rotate_left
 refine sd ?_
 rotate_left
 all_goals (refine congrArg (fun b=>resV [.bool b]) ?_; clear c143_; rw [Bool.eq_iff_iff]; generalize ((pss s.ps).length:Int)=n at *; simp_all [cmpF,Bool.cond_eq_ite])
theorem c68 (s:Sto) (h:s.ok):CallDet Tryz.prog 68 [.d s.d] [s.d]:=by
 have c66_:=c66 s.ps h.1 fun o ho=>by have:=flat_mem ho; have:=h.2; omega
 refine call_of_vc (x:=jr68) (by kernel_rfl) rfl ?_
 refine ca c66_ ?_
 exact rfl
theorem c152 (s:Sto):CallDet Tryz.prog 152 [.d s.d] [s.d]:=by
 refine call_of_vc (x:=jr152) (by kernel_rfl) rfl ?_
 exact rfl
theorem chk_a {s:Sto} (h:stoA s≠0):chkS s=stoA s:=by unfold chkS; rw [bne_iff_ne.2 h]; rfl
theorem chk_b {s:Sto} (h:stoA s=0) (h2:stoB s≠0):chkS s=stoB s:=by unfold chkS; rw [h,bne_iff_ne.2 h2]; rfl
theorem chk_c {s:Sto} (h:stoA s=0) (h2:stoB s=0):chkS s=stoC s:=by unfold chkS; rw [h,h2]; rfl
theorem c83 (s:Sto) (h:s.ok):CallDet Tryz.prog 83 [.d s.d] [.int .i64 (chkS s)]:=by
 have hll:=pss_len s.ps
 have c99_:CallDet Tryz.prog 99 [.d (.slice 1 [.int .i64 (within3 s.ru 0 10000),.int .i64 (within3 s.ol 0 10000),.int .i64 (within3 s.nw 0 10000),.int .i64 (bif decide ((16:Int) < ((pss s.ps).length:Int)) then 5 else 0)])] [.int .i64 (stoA s)]:=by
  rw [hll]; exact c99 [within3 s.ru 0 10000,within3 s.ol 0 10000,within3 s.nw 0 10000,bif decide ((16:Int) < (s.ps.length:Int)) then 5 else 0] (by simp)
 have c148_:CallDet Tryz.prog 148 [.d (.slice 1 (pss s.ps)),.d (.fn (.func 149) [])] [.bool (longP s.ps)]:=c148 s.ps h.1 149 (fun b=>decide ((32:Int) < (b.length:Int))) fun x _=>c149 x
 have c150_:=c150 s h
 have c99_b:CallDet Tryz.prog 99 [.d (.slice 1 [.int .i64 (bif longP s.ps then 4 else 0),.int .i64 (within3 s.su 0 9972),.int .i64 (bif !formedB s then 22 else 0)])] [.int .i64 (stoB s)]:=c99 [bif longP s.ps then 4 else 0,within3 s.su 0 9972,bif !formedB s then 22 else 0] (by simp)
 have c140_:=c140 s.ps h.1 h.2
 have p1:stoA s≠0→chkS s=stoA s:=chk_a
 have p2:stoA s=0→stoB s≠0→chkS s=stoB s:=chk_b
 have p3:stoA s=0→stoB s=0→chkS s=stoC s:=chk_c
 refine call_of_vc (x:=jr83) (by kernel_rfl) rfl ?_
 refine ca (c147 s.ru) ?_
 refine ca (c147 s.ol) ?_
 refine ca (c147 s.nw) ?_
 refine sd ?_
 refine ca (c103 _ _) ?_
 refine sd ?_
 refine sd ?_
 refine ca c99_ ?_
 refine sd ?_
 refine b_ne (fun t1=>?_) (fun t1=>?_)
 rotate_left
 refine ca c148_ ?_
 refine ca (c103 _ _) ?_
 refine ca (c122 _ _ _) ?_
 refine ca c150_ ?_
 refine ca (c103 _ _) ?_
 refine sd ?_
 refine sd ?_
 refine ca c99_b ?_
 refine sd ?_
 refine b_ne (fun t2=>?_) (fun t2=>?_)
 rotate_left
 refine b_intro (fun t3=>?_) (fun t3=>?_)
 refine ca c140_ ?_
 refine sd ?_
 refine ca (c103 _ _) ?_
 rotate_left
 refine sd ?_
 refine ca (c103 _ _) ?_
 rotate_left
 ·show resV [.int .i64 (stoA s)]=resV [.int .i64 (chkS s)]
  rw [p1 t1]
 ·show resV [.int .i64 (stoB s)]=resV [.int .i64 (chkS s)]
  rw [p2 t1 t2]
 ·show resV [.int .i64 (bif (psum s.ps != s.su) then 27 else 0)]=resV [.int .i64 (chkS s)]
  rw [p3 t1 t2]; unfold stoC; rw [t3]; rfl
 ·show resV [.int .i64 0]=resV [.int .i64 (chkS s)]
  rw [p3 t1 t2]; unfold stoC; rw [t3]; rfl
theorem c151 (s:Sto) (h1:s.ps.length≤1048576):CallDet Tryz.prog 151 [.d s.d,.d s.d] [.bool true]:=by
 have hll:=pss_len s.ps
 refine call_of_vc (x:=jr151) (by kernel_rfl) rfl ?_
 refine sd ?_
 refine b_ne (fun t1=>?_) (fun t1=>?_)
 (exfalso; omega)
 refine sd ?_
 refine b_ne (fun t2=>?_) (fun t2=>?_)
 (exfalso; omega)
 refine sd ?_
 refine b_ne (fun t3=>?_) (fun t3=>?_)
 (exfalso; omega)
 refine sd ?_
 refine b_ne (fun t4=>?_) (fun t4=>?_)
 (exfalso; omega)
 refine b_intro (fun t5=>?_) (fun t5=>?_)
 replace t5:(Sto.ck s != Sto.ck s)=true:=t5
 refine sd ?_
 refine sd ?_
 rotate_left
 replace t5:(Sto.ck s != Sto.ck s)=false:=t5
 refine b_intro (fun t6=>?_) (fun t6=>?_)
 replace t6:(Sto.tr s != Sto.tr s)=true:=t6
 refine sd ?_
 rotate_left
 replace t6:(Sto.tr s != Sto.tr s)=false:=t6
 refine sd ?_
 refine b_ne (fun t7=>?_) (fun t7=>?_)
 (exfalso; omega)
 rotate_left
 ·rw [bne_self_eq_false] at t5; cases t5
 ·rw [bne_self_eq_false] at t6; cases t6
 refine loop_st (fun k:Nat=>⟨[(2,.ptr 0 0),(3,.ptr 1 0),(5,.d (.int .i64 k))],[.cbox [.int .i64 s.ru,.int .i64 s.ol,.int .i64 s.nw,.int .i64 s.su,.slice 1 (pss s.ps),.bool s.ck,.bool s.tr],.cbox [.int .i64 s.ru,.int .i64 s.ol,.int .i64 s.nw,.int .i64 s.su,.slice 1 (pss s.ps),.bool s.ck,.bool s.tr]]⟩) (fun k=>k≤s.ps.length) (fun k=>s.ps.length - k) 0 rfl (Nat.zero_le _) ?_
 intro k hk
 have hk:k≤s.ps.length:=hk
 dsimp only
 by_cases hkn:k < s.ps.length
 ·refine Exists.elim (get_lt s.ps hkn) fun x hx=>?_
  have hx1:=pss_at hx
  have c179_:=c179 x
  have fin:∃ a':Nat,(a'≤s.ps.length∧s.ps.length - a' < s.ps.length - k)∧(⟨[(2,.ptr 0 0),(3,.ptr 1 0),(5,.d (.int .i64 ((k:Int)+1)))],[.cbox [.int .i64 s.ru,.int .i64 s.ol,.int .i64 s.nw,.int .i64 s.su,.slice 1 (pss s.ps),.bool s.ck,.bool s.tr],.cbox [.int .i64 s.ru,.int .i64 s.ol,.int .i64 s.nw,.int .i64 s.su,.slice 1 (pss s.ps),.bool s.ck,.bool s.tr]]⟩:St)=⟨[(2,.ptr 0 0),(3,.ptr 1 0),(5,.d (.int .i64 (a':Nat)))],[.cbox [.int .i64 s.ru,.int .i64 s.ol,.int .i64 s.nw,.int .i64 s.su,.slice 1 (pss s.ps),.bool s.ck,.bool s.tr],.cbox [.int .i64 s.ru,.int .i64 s.ol,.int .i64 s.nw,.int .i64 s.su,.slice 1 (pss s.ps),.bool s.ck,.bool s.tr]]⟩ :=
   ⟨k+1,⟨by omega,by omega⟩,rfl⟩
  refine sd ?_
  refine b_lt (fun t8=>?_) (fun t8=>?_)
  refine ix_at hx1 ?_ ?_
  (show (0:Int)≤(↑k:Int); omega)
  refine ix_at hx1 ?_ ?_
  (show (0:Int)≤(↑k:Int); omega)
  refine ca c179_ ?_
  refine ar_add ?_ ?_
  refine an ?_ ?_
  (show (-9223372036854775808:Int)≤(↑k:Int)+(1:Int); omega)
  (show (↑k:Int)+(1:Int)≤(9223372036854775807:Int); omega)
  rotate_left
  (exfalso; omega)
  all_goals exact fin
 ·refine sd ?_
  refine b_lt (fun t8=>?_) (fun t8=>?_)
  (exfalso; omega)
  exact rfl
  all_goals rfl
theorem pss_nil (n:Nat):List.replicate n (Data.slice 1 [])=pss (List.replicate n []):=by
 unfold pss; rw [List.map_replicate]; rfl
def fillR (l:List (List UInt8)) (k:Nat):List Data:=pss (l.take k)++List.replicate ((pss l).length - k) (.slice 1 [])
theorem fill_set {l:List (List UInt8)} {k:Nat} {x:List UInt8} (h:l[k]?=some x):(fillR l k).set k (.slice 1 (bys x))=fillR l (k+1):=by
 have hk:k < l.length:=(List.getElem?_eq_some_iff.1 h).1
 have hl:(pss (l.take k)).length=k:=by rw [pss_len,List.length_take]; omega
 unfold fillR
 rw [pss_len,List.set_append_right _ _ (by omega),hl,Nat.sub_self,pss_step h,show l.length - k=(l.length - (k+1))+1 by omega,List.replicate_succ,List.set_cons_zero,List.append_assoc]
 rfl
theorem fill_len {l:List (List UInt8)} {k:Nat} (h:k≤l.length):(fillR l k).length=(pss l).length:=by
 unfold fillR
 rw [pss_len,List.length_append,pss_len,List.length_take,List.length_replicate]; omega
theorem fill_at {l:List (List UInt8)} {k:Nat} (h:k < l.length):(fillR l k)[((k:Int)).toNat]?=some (.slice 1 []):=by
 have hl:(pss (l.take k)).length=k:=by rw [pss_len,List.length_take]; omega
 show (fillR l k)[k]?=_
 unfold fillR
 rw [pss_len,List.getElem?_append_right (by omega),hl,Nat.sub_self,show l.length - k=(l.length - (k+1))+1 by omega,List.replicate_succ]; rfl
theorem fill_all (l:List (List UInt8)):fillR l l.length=pss l:=by
 unfold fillR
 rw [pss_len,List.take_length,Nat.sub_self]; exact List.append_nil _
theorem c142 (s:Sto) (h:s.ok):CallDet Tryz.prog 142 [.d s.d] [s.d]:=by
 have hll:=pss_len s.ps
 have h1:=h.1
 have hrl:(List.replicate (pss s.ps).length (Data.slice 1 [])).length=(pss s.ps).length:=List.length_replicate
 refine call_of_vc (x:=jr142) (by kernel_rfl) rfl ?_
 refine an ?_ ?_
 refine an ?_ ?_
 (show (0:Int)≤(↑(List.length (pss (Sto.ps s))):Int); omega)
 refine an ?_ ?_
 (show (↑(List.length (pss (Sto.ps s))):Int) * (↑(24:Nat):Int)≤(2:Int) ^ (47:Nat); omega)
 (show (↑(List.length (pss (Sto.ps s))):Int)≤(2:Int) ^ (47:Nat); omega)
 refine an ?_ ?_
 assumption
 rotate_left
 refine loop_st (fun k:Nat=>⟨[(1,.ptr 0 0),(2,.ptr 1 0),(3,.sl 2 (pss s.ps).length),(10,.d (.int .i64 ((List.replicate (pss s.ps).length (Data.slice 1 [])).length:Int))),(11,.d (.int .i64 (k:Nat)))],[.box [.d (.int .i64 s.ru),.d (.int .i64 s.ol),.d (.int .i64 s.nw),.d (.int .i64 s.su),.d (.slice 1 (pss s.ps)),.d (.bool s.ck),.d (.bool s.tr)],.box [.d (.int .i64 0),.d (.int .i64 0),.d (.int .i64 0),.d (.int .i64 0),.nils 1,.d (.bool false),.d (.bool false)],.row 111 1 (fillR s.ps k) false]⟩) (fun k=>k≤s.ps.length) (fun k=>s.ps.length - k) 0 rfl (Nat.zero_le _) ?_
 intro k hk
 have hk:k≤s.ps.length:=hk
 have hfl:=fill_len hk
 dsimp only
 by_cases hkn:k < s.ps.length
 ·refine Exists.elim (get_lt s.ps hkn) fun x hx=>?_
  have hx1:=pss_at hx
  have hx2:=fill_at hkn
  have hx3:=bys_len x
  have hx4:=flat_mem (List.mem_of_getElem? hx)
  have hx5:=h.2
  have c176_:=c176 (bys x) (by omega)
  have fin:∃ a':Nat,(a'≤s.ps.length∧s.ps.length - a' < s.ps.length - k)∧(⟨[(1,.ptr 0 0),(2,.ptr 1 0),(3,.sl 2 (pss s.ps).length),(10,.d (.int .i64 ((List.replicate (pss s.ps).length (Data.slice 1 [])).length:Int))),(11,.d (.int .i64 ((k:Int)+1)))],[.box [.d (.int .i64 s.ru),.d (.int .i64 s.ol),.d (.int .i64 s.nw),.d (.int .i64 s.su),.d (.slice 1 (pss s.ps)),.d (.bool s.ck),.d (.bool s.tr)],.box [.d (.int .i64 0),.d (.int .i64 0),.d (.int .i64 0),.d (.int .i64 0),.nils 1,.d (.bool false),.d (.bool false)],.row 111 1 ((fillR s.ps k).set k (.slice 1 (bys x))) false]⟩:St)=⟨[(1,.ptr 0 0),(2,.ptr 1 0),(3,.sl 2 (pss s.ps).length),(10,.d (.int .i64 ((List.replicate (pss s.ps).length (Data.slice 1 [])).length:Int))),(11,.d (.int .i64 (a':Nat)))],[.box [.d (.int .i64 s.ru),.d (.int .i64 s.ol),.d (.int .i64 s.nw),.d (.int .i64 s.su),.d (.slice 1 (pss s.ps)),.d (.bool s.ck),.d (.bool s.tr)],.box [.d (.int .i64 0),.d (.int .i64 0),.d (.int .i64 0),.d (.int .i64 0),.nils 1,.d (.bool false),.d (.bool false)],.row 111 1 (fillR s.ps a') false]⟩ :=
   ⟨k+1,⟨by omega,by omega⟩,by rw [fill_set hx]; rfl⟩
  refine sd ?_
  refine b_lt (fun t1=>?_) (fun t1=>?_)
  refine ix_at hx1 ?_ ?_
  (show (0:Int)≤(↑k:Int); omega)
  refine ca c176_ ?_
  refine an ?_ ?_
  refine an ?_ ?_
  exact rfl
  refine an ?_ ?_
  assumption
  refine an ?_ ?_
  (show (0:Int)≤(↑k:Int); omega)
  (show (↑k:Int) < (↑(List.length (pss (Sto.ps s))):Int); omega)
  refine Exists.intro _ (Exists.intro (Data.slice (1:Nat) (bys x)) (And.intro (And.intro ?_ (And.intro hx2 (And.intro rfl (And.intro ?_ (And.intro rfl rfl))))) ?_))
  assumption
  (show (0:Nat)+(1:Nat)≤(1:Nat); omega)
  refine ar_add ?_ ?_
  refine an ?_ ?_
  (show (-9223372036854775808:Int)≤(↑k:Int)+(1:Int); omega)
  (show (↑k:Int)+(1:Int)≤(9223372036854775807:Int); omega)
  rotate_left
  (exfalso; omega)
  all_goals exact fin
 ·have e:k=s.ps.length:=by omega
  subst e
  rw [fill_all]
  refine sd ?_
  refine b_lt (fun t1=>?_) (fun t1=>?_)
  (exfalso; omega)
  refine sd ?_
  refine sd ?_
  exact rfl
end Vc
