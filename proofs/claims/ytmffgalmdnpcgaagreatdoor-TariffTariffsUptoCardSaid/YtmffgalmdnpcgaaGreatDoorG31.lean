import Derived.Test.YtmffgalmdnpcgaaGreatDoorG30
set_option linter.unusedSectionVars false
set_option linter.unusedVariables false
set_option linter.unusedSimpArgs false
set_option maxRecDepth 10000
set_option maxHeartbeats 4000000
namespace Vc
open Go Go.Proofs
def mpK:Nat→List (Data × Data)
 | 0=>[]
 | 1=>[(.agg [.int .i64 0,.int .i64 1,.int .i64 50],.agg [.int .i64 0,.int .i64 1,.int .i64 4,.int .i64 200])]
 | 2=>[(.agg [.int .i64 0,.int .i64 1,.int .i64 50],.agg [.int .i64 0,.int .i64 1,.int .i64 4,.int .i64 200]),(.agg [.int .i64 0,.int .i64 0,.int .i64 100],.agg [.int .i64 0,.int .i64 0,.int .i64 5,.int .i64 500])]
 | _=>[(.agg [.int .i64 0,.int .i64 1,.int .i64 50],.agg [.int .i64 0,.int .i64 1,.int .i64 4,.int .i64 200]),(.agg [.int .i64 0,.int .i64 0,.int .i64 100],.agg [.int .i64 0,.int .i64 0,.int .i64 8,.int .i64 840])]
def jr49:AFun:=⟨83,16,[.tmp 6,.tmp 7],
 (.seq
 (.reg [0,1] [⟨some 3,.cbx 0 2 (.tmp 0),none⟩,
  ⟨some 4,.cbx 1 3 (.tmp 1),none⟩,
  ⟨some 6,.mov (.cst (.nils 4)),none⟩,
  ⟨some 7,.mov (.cst (.d (.int .i64 0))),none⟩])
 (.seq
  (.seq
  (.reg [] [⟨some 18,.ld true 2 (.tmp 3),none⟩,
   ⟨some 19,.ld true 3 (.tmp 4),none⟩,
   ⟨some 20,.mov (.tmp 2),none⟩,
   ⟨some 21,.call 120 [(.tmp 18),(.tmp 19),(.tmp 20)],none⟩,
   ⟨some 8,.mov (.tmp 21),none⟩])
  (.seq
   (.reg [] [⟨some 22,.mov (.tmp 8),none⟩,
    ⟨some 23,.cmp .neq (.tmp 22) (.cst (.d (.int .i64 0))),none⟩])
   (.cond (.tmp 23)
   (.seq
    (.reg [] [⟨some 24,.mov (.tmp 8),none⟩,
     ⟨some 6,.mov (.cst (.nils 4)),none⟩,
     ⟨some 7,.mov (.tmp 24),none⟩])
    .ret)
   .skip)))
  (.seq
  (.reg [2] [⟨some 26,.ld true 2 (.tmp 3),none⟩,
   ⟨some 27,.ld true 3 (.tmp 4),none⟩,
   ⟨some 28,.mov (.tmp 2),none⟩,
   ⟨some 29,.call 121 [(.tmp 26),(.tmp 27),(.tmp 28)],none⟩,
   ⟨some 25,.mov (.tmp 29),none⟩,
   ⟨some 30,.ext 0 (.tmp 25),none⟩,
   ⟨some 31,.ext 1 (.tmp 25),none⟩,
   ⟨some 32,.ext 2 (.tmp 25),none⟩,
   ⟨some 10,.alloc 2 [(.d (.int .i64 0)),(.d (.int .i64 0)),(.d (.int .i64 0))],none⟩,
   ⟨some 9,.mov (.tmp 30),none⟩,
   ⟨none,.st 3 (.tmp 10) (.tmp 31),none⟩,
   ⟨some 11,.mov (.tmp 32),none⟩])
  (.seq
   (.seq
   (.reg [] [⟨some 33,.mov (.tmp 11),none⟩,
    ⟨some 34,.cmp .neq (.tmp 33) (.cst (.d (.int .i64 0))),none⟩])
   (.cond (.tmp 34)
    (.seq
    (.reg [] [⟨some 35,.mov (.tmp 11),none⟩,
     ⟨some 6,.mov (.cst (.nils 4)),none⟩,
     ⟨some 7,.mov (.tmp 35),none⟩])
    .ret)
    .skip))
   (.seq
   (.reg [3,4] [⟨some 36,.mkm 3,none⟩,
    ⟨some 12,.alloc 4 [.undef],none⟩,
    ⟨none,.st 1 (.tmp 12) (.tmp 36),none⟩])
   (.seq
    (.seq
    (.reg [] [⟨some 37,.mov (.tmp 9),none⟩,
     ⟨some 38,.len (.tmp 37),none⟩,
     ⟨some 39,.mov (.cst (.d (.int .i64 0))),none⟩])
    (.post [12] [0,1,2,3,4,5,6]
     (.block 0
     (.keep [12,37,38,39] [0,1,2,3,4]
      (.loop
      (.post [12,37,38,39] [5,6]
       (.seq
       (.reg [] [⟨some 40,.cmp .lss (.tmp 39) (.tmp 38),none⟩])
       (.seq
        (.cond (.tmp 40)
        .skip
        (.exit 0))
        (.seq
        (.block 1
         (.seq
         (.reg [5] [⟨some 41,.ixa 5 (.tmp 37) (.tmp 39),none⟩,
          ⟨some 42,.ld true 5 (.tmp 41),none⟩,
          ⟨some 14,.alloc 5 [(.d (.int .i64 0)),(.d (.int .i64 0)),(.d (.int .i64 0)),(.d (.int .i64 0)),(.d (.int .i64 0))],none⟩,
          ⟨none,.st 5 (.tmp 14) (.tmp 42),none⟩])
         (.seq
          (.reg [6] [⟨some 43,.ld false 1 (.tmp 12),none⟩,
           ⟨some 44,.fad 0 (.tmp 14),none⟩,
           ⟨some 45,.ld true 3 (.tmp 44),none⟩,
           ⟨some 46,.lkps [0,0,0] (.agg [(.int .i64 0),(.int .i64 0),(.int .i64 0),(.int .i64 0)]) false (.tmp 43) (.tmp 45),none⟩,
           ⟨some 15,.alloc 6 [(.d (.int .i64 0)),(.d (.int .i64 0)),(.d (.int .i64 0)),(.d (.int .i64 0))],none⟩,
           ⟨none,.st 4 (.tmp 15) (.tmp 46),none⟩])
          (.reg [] [⟨some 47,.ld false 1 (.tmp 12),none⟩,
           ⟨some 48,.fad 0 (.tmp 14),none⟩,
           ⟨some 49,.ld true 3 (.tmp 48),none⟩,
           ⟨some 50,.fad 0 (.tmp 14),none⟩,
           ⟨some 51,.fad 0 (.tmp 50),none⟩,
           ⟨some 52,.ld false 1 (.tmp 51),none⟩,
           ⟨some 53,.fad 0 (.tmp 14),none⟩,
           ⟨some 54,.fad 1 (.tmp 53),none⟩,
           ⟨some 55,.ld false 1 (.tmp 54),none⟩,
           ⟨some 56,.fad 2 (.tmp 15),none⟩,
           ⟨some 57,.ld false 1 (.tmp 56),none⟩,
           ⟨some 58,.fad 3 (.tmp 14),none⟩,
           ⟨some 59,.ld false 1 (.tmp 58),none⟩,
           ⟨some 60,.arith .add .i64 (.tmp 57) (.tmp 59),none⟩,
           ⟨some 61,.fad 3 (.tmp 15),none⟩,
           ⟨some 62,.ld false 1 (.tmp 61),none⟩,
           ⟨some 63,.fad 4 (.tmp 14),none⟩,
           ⟨some 64,.ld false 1 (.tmp 63),none⟩,
           ⟨some 65,.arith .add .i64 (.tmp 62) (.tmp 64),none⟩,
           ⟨some 66,.build [(.d (.int .i64 0)),(.d (.int .i64 0)),(.d (.int .i64 0)),(.d (.int .i64 0))] [(0,1,(.tmp 52)),(1,1,(.tmp 55)),(2,1,(.tmp 60)),(3,1,(.tmp 65))],none⟩,
           ⟨none,.mpus [0,0,0] (.tmp 47) (.tmp 49) (.tmp 66),none⟩]))))
        (.reg [] [⟨some 67,.arith .add .i64 (.tmp 39) (.cst (.d (.int .i64 1))),none⟩,
         ⟨some 39,.mov (.tmp 67),none⟩]))))))))))
    (.seq
    (.reg [] [⟨some 16,.mov (.cst (.nils 3)),none⟩])
    (.seq
     (.seq
     (.reg [7] [⟨some 68,.ld false 1 (.tmp 12),none⟩,
      ⟨some 69,.rngm 7 (.tmp 68),none⟩])
     (.post [12,16] [0,1,2,3,4,5,6,7,8,9,10]
      (.block 2
      (.asrow 10 59 3 16
       (.keep [12,16,69] [0,1,2,3,4,5,6,7]
       (.loop
        (.post [12,16,69] [8,9,10]
        (.seq
         (.reg [] [⟨some 70,.nxm (.tmp 69),none⟩,
          ⟨some 71,.ext 0 (.tmp 70),none⟩])
         (.seq
         (.cond (.tmp 71)
          .skip
          (.exit 2))
         (.pick 7
(.block 3
          (.seq
          (.reg [8] [⟨some 72,.ent (.tmp 69),none⟩,
           ⟨some 73,.ext 0 (.tmp 72),none⟩,
           ⟨some 17,.alloc 8 [(.d (.int .i64 0)),(.d (.int .i64 0)),(.d (.int .i64 0))],none⟩,
           ⟨none,.st 3 (.tmp 17) (.tmp 73),none⟩])
          (.reg [9,10] [⟨some 74,.mov (.tmp 16),none⟩,
           ⟨some 75,.ld true 3 (.tmp 17),none⟩,
           ⟨some 76,.bsl 9 59 3 1 [(.agg [(.int .i64 0),(.int .i64 0),(.int .i64 0)])] [(0,(.tmp 75))],none⟩,
           ⟨some 77,.app 10 59 3 24 (.tmp 74) (.tmp 76),none⟩,
           ⟨some 16,.mov (.tmp 77),none⟩])))))))))))))
     (.seq
     (.reg [] [⟨some 78,.mov (.tmp 16),none⟩,
      ⟨some 79,.calli 122 [(.tmp 78),(.cst (.d (.fn (.func 123) [])))],none⟩])
     (.asdat 16
(.seq
      (.reg [] [⟨some 80,.mov (.tmp 16),none⟩,
       ⟨some 81,.mkr (.func 125) [] [(.tmp 12)],none⟩,
       ⟨some 82,.calli 124 [(.tmp 80),(.tmp 81)],none⟩,
       ⟨some 6,.mov (.tmp 82),none⟩,
       ⟨some 7,.mov (.cst (.d (.int .i64 0))),none⟩])
      .ret)))))))))))⟩
def jr125:AFun:=⟨7,2,[.cell 3 4 true],
 (.seq
 (.reg [0,1] [⟨some 2,.cbx 0 3 (.tmp 0),none⟩,
  ⟨some 3,.alloc 1 [(.d (.int .i64 0)),(.d (.int .i64 0)),(.d (.int .i64 0)),(.d (.int .i64 0))],none⟩])
 (.seq
  (.reg [] [⟨some 4,.ld false 1 (.tmp 1),none⟩,
   ⟨some 5,.ld true 3 (.tmp 2),none⟩,
   ⟨some 6,.lkps [0,0,0] (.agg [(.int .i64 0),(.int .i64 0),(.int .i64 0),(.int .i64 0)]) false (.tmp 4) (.tmp 5),none⟩,
   ⟨none,.st 4 (.tmp 3) (.tmp 6),none⟩])
  .ret))⟩
def jr124:AFun:=⟨22,5,[.tmp 4],
 (.seq
 (.reg [] [⟨some 4,.mov (.cst (.nils 4)),none⟩])
 (.seq
  (.reg [] [⟨some 5,.mov (.cst (.nils 4)),none⟩])
  (.seq
  (.seq
   (.reg [] [⟨some 8,.mov (.tmp 0),none⟩,
    ⟨some 9,.len (.tmp 8),none⟩,
    ⟨some 10,.mov (.cst (.d (.int .i64 0))),none⟩])
   (.post [5] [0,1,2]
   (.block 0
    (.asrow 2 163 4 5
    (.keep [1,5,8,9,10] []
     (.loop
     (.post [1,5,8,9,10] [0,1,2,3,4]
      (.seq
      (.reg [] [⟨some 11,.cmp .lss (.tmp 10) (.tmp 9),none⟩])
      (.seq
       (.cond (.tmp 11)
       .skip
       (.exit 0))
       (.seq
       (.block 1
        (.seq
        (.reg [0] [⟨some 12,.ixa 3 (.tmp 8) (.tmp 10),none⟩,
         ⟨some 13,.ld true 3 (.tmp 12),none⟩,
         ⟨some 7,.alloc 0 [(.d (.int .i64 0)),(.d (.int .i64 0)),(.d (.int .i64 0))],none⟩,
         ⟨none,.st 3 (.tmp 7) (.tmp 13),none⟩])
        (.reg [1,2] [⟨some 14,.mov (.tmp 5),none⟩,
         ⟨some 15,.mov (.tmp 1),none⟩,
         ⟨some 16,.ld true 3 (.tmp 7),none⟩,
         ⟨some 17,.callvi (.tmp 15) [(.tmp 16)],none⟩,
         ⟨some 18,.bsl 1 163 4 1 [(.agg [(.int .i64 0),(.int .i64 0),(.int .i64 0),(.int .i64 0)])] [(0,(.tmp 17))],none⟩,
         ⟨some 19,.app 2 163 4 32 (.tmp 14) (.tmp 18),none⟩,
         ⟨some 5,.mov (.tmp 19),none⟩])))
       (.reg [] [⟨some 20,.arith .add .i64 (.tmp 10) (.cst (.d (.int .i64 1))),none⟩,
        ⟨some 10,.mov (.tmp 20),none⟩])))))))))))
  (.seq
   (.reg [] [⟨some 21,.mov (.tmp 5),none⟩,
    ⟨some 4,.mov (.tmp 21),none⟩])
   .ret))))⟩
def jr217:AFun:=⟨53,0,[],
 (.seq
 (.reg [] [⟨some 10,.mov (.tmp 1),none⟩,
  ⟨some 11,.arith .add .i64 (.tmp 10) (.cst (.d (.int .i64 1))),none⟩,
  ⟨some 8,.mov (.tmp 11),none⟩])
 (.post [] []
  (.block 0
  (.keep [0,1,2,3,8] []
   (.loop
   (.post [0,1,2,3,8] []
    (.seq
    (.seq
     (.reg [] [⟨some 12,.mov (.tmp 8),none⟩,
      ⟨some 13,.mov (.tmp 2),none⟩,
      ⟨some 14,.cmp .lss (.tmp 12) (.tmp 13),none⟩])
     (.cond (.tmp 14)
     .skip
     (.exit 0)))
    (.seq
     (.block 1
     (.seq
      (.reg [] [⟨some 17,.mov (.tmp 8),none⟩,
       ⟨some 9,.mov (.tmp 17),none⟩])
      (.post [0,1,2,3,8] []
      (.block 2
       (.keep [0,1,2,3,8,9] []
       (.loop
        (.post [0,1,2,3,8,9] []
        (.seq
         (.seq
         (.regd [] [⟨some 18,.mov (.tmp 9),none⟩,
          ⟨some 19,.mov (.tmp 1),none⟩,
          ⟨some 20,.cmp .gtr (.tmp 18) (.tmp 19),none⟩,
          ⟨some 21,.mov (.tmp 20),none⟩,
          ⟨some 22,.mov (.tmp 3),some (21,true)⟩,
          ⟨some 23,.mov (.tmp 0),some (21,true)⟩,
          ⟨some 24,.mov (.tmp 9),some (21,true)⟩,
          ⟨some 25,.ixa 3 (.tmp 23) (.tmp 24),some (21,true)⟩,
          ⟨some 26,.ld true 3 (.tmp 25),some (21,true)⟩,
          ⟨some 27,.mov (.tmp 0),some (21,true)⟩,
          ⟨some 28,.mov (.tmp 9),some (21,true)⟩,
          ⟨some 29,.arith .sub .i64 (.tmp 28) (.cst (.d (.int .i64 1))),some (21,true)⟩,
          ⟨some 30,.ixa 3 (.tmp 27) (.tmp 29),some (21,true)⟩,
          ⟨some 31,.ld true 3 (.tmp 30),some (21,true)⟩,
          ⟨some 32,.callv (.tmp 22) [(.tmp 26),(.tmp 31)],some (21,true)⟩,
          ⟨some 33,.cmp .lss (.tmp 32) (.cst (.d (.int .i64 0))),some (21,true)⟩,
          ⟨some 34,.pick (.tmp 21) (.tmp 33) (.cst (.d (.bool false))),none⟩] [(0,1),(4,5),(4,6),(5,6),(4,7),(4,8),(4,9),(5,9),(6,9),(7,9),(8,9),(4,10),(5,10),(6,10),(7,10),(8,10),(9,10),(4,11),(5,11),(6,11),(7,11),(8,11),(9,11),(4,12),(5,12),(6,12),(7,12),(8,12),(4,13),(5,13),(6,13),(7,13),(8,13)])
         (.cond (.tmp 34)
          .skip
          (.exit 2)))
         (.seq
         (.block 3
          (.regd [] [⟨some 37,.mov (.tmp 0),none⟩,
           ⟨some 38,.mov (.tmp 9),none⟩,
           ⟨some 39,.mov (.tmp 0),none⟩,
           ⟨some 40,.mov (.tmp 9),none⟩,
           ⟨some 41,.arith .sub .i64 (.tmp 40) (.cst (.d (.int .i64 1))),none⟩,
           ⟨some 42,.mov (.tmp 0),none⟩,
           ⟨some 43,.mov (.tmp 9),none⟩,
           ⟨some 44,.arith .sub .i64 (.tmp 43) (.cst (.d (.int .i64 1))),none⟩,
           ⟨some 45,.ixa 3 (.tmp 42) (.tmp 44),none⟩,
           ⟨some 46,.ld true 3 (.tmp 45),none⟩,
           ⟨some 47,.mov (.tmp 0),none⟩,
           ⟨some 48,.mov (.tmp 9),none⟩,
           ⟨some 49,.ixa 3 (.tmp 47) (.tmp 48),none⟩,
           ⟨some 50,.ld true 3 (.tmp 49),none⟩,
           ⟨some 51,.ixa 3 (.tmp 37) (.tmp 38),none⟩,
           ⟨none,.st 3 (.tmp 51) (.tmp 46),none⟩,
           ⟨some 52,.ixa 3 (.tmp 39) (.tmp 41),none⟩,
           ⟨none,.st 3 (.tmp 52) (.tmp 50),none⟩] [(0,1),(0,2),(1,2),(0,3),(1,3),(2,3),(0,4),(1,4),(2,4),(0,5),(1,5),(2,5),(3,5),(4,5),(0,6),(1,6),(2,6),(3,6),(4,6),(5,6),(0,7),(1,7),(2,7),(3,7),(4,7),(5,7),(0,8),(1,8),(2,8),(3,8),(4,8),(0,9),(1,9),(2,9),(3,9),(4,9),(0,10),(1,10),(2,10),(3,10),(4,10),(5,10),(6,10),(7,10),(8,10),(9,10),(0,11),(1,11),(2,11),(3,11),(4,11),(5,11),(6,11),(7,11),(8,11),(9,11),(10,11),(0,12),(1,12),(2,12),(3,12),(4,12),(5,12),(6,12),(7,12),(8,12),(9,12),(0,13),(1,13),(2,13),(3,13),(4,13),(5,13),(6,13),(7,13),(8,13),(9,13),(2,14),(3,14),(4,14),(2,15),(3,15),(4,15)]))
         (.reg [] [⟨some 35,.mov (.tmp 9),none⟩,
          ⟨some 36,.arith .sub .i64 (.tmp 35) (.cst (.d (.int .i64 1))),none⟩,
          ⟨some 9,.mov (.tmp 36),none⟩]))))))))))
     (.reg [] [⟨some 15,.mov (.tmp 8),none⟩,
      ⟨some 16,.arith .add .i64 (.tmp 15) (.cst (.d (.int .i64 1))),none⟩,
      ⟨some 8,.mov (.tmp 16),none⟩])))))))))⟩
def jr181:AFun:=⟨148,0,[],
 (.seq
 (.reg [] [⟨some 10,.mov (.cst (.d (.bool true))),none⟩])
 (.seq
  (.reg [] [⟨some 11,.mov (.cst (.d (.bool true))),none⟩])
  (.post [] []
  (.block 0
   (.keep [0,1,2,3,4,10,11] []
   (.loop
    (.post [0,1,2,3,4,10,11] []
    (.block 1
     (.seq
     (.reg [] [⟨some 21,.mov (.tmp 2),none⟩,
      ⟨some 22,.mov (.tmp 1),none⟩,
      ⟨some 23,.arith .sub .i64 (.tmp 21) (.tmp 22),none⟩,
      ⟨some 12,.mov (.tmp 23),none⟩])
     (.seq
      (.seq
      (.reg [] [⟨some 24,.mov (.tmp 12),none⟩,
       ⟨some 25,.cmp .leq (.tmp 24) (.cst (.d (.int .i64 12))),none⟩])
      (.cond (.tmp 25)
       (.seq
       (.reg [] [⟨some 26,.mov (.tmp 0),none⟩,
        ⟨some 27,.mov (.tmp 1),none⟩,
        ⟨some 28,.mov (.tmp 2),none⟩,
        ⟨some 29,.mov (.tmp 4),none⟩,
        ⟨some 30,.calli 217 [(.tmp 26),(.tmp 27),(.tmp 28),(.tmp 29)],none⟩])
       .ret)
       .skip))
      (.seq
      (.seq
       (.reg [] [⟨some 31,.mov (.tmp 3),none⟩,
        ⟨some 32,.cmp .eql (.tmp 31) (.cst (.d (.int .i64 0))),none⟩])
       (.cond (.tmp 32)
       (.seq
        (.reg [] [⟨some 33,.mov (.tmp 0),none⟩,
         ⟨some 34,.mov (.tmp 1),none⟩,
         ⟨some 35,.mov (.tmp 2),none⟩,
         ⟨some 36,.mov (.tmp 4),none⟩,
         ⟨some 37,.call 218 [(.tmp 33),(.tmp 34),(.tmp 35),(.tmp 36)],none⟩])
        .ret)
       .skip))
      (.seq
       (.seq
       (.reg [] [⟨some 38,.mov (.tmp 10),none⟩,
        ⟨some 39,.not (.tmp 38),none⟩])
       (.cond (.tmp 39)
        (.seq
        (.reg [] [⟨some 40,.mov (.tmp 0),none⟩,
         ⟨some 41,.mov (.tmp 1),none⟩,
         ⟨some 42,.mov (.tmp 2),none⟩,
         ⟨some 43,.mov (.tmp 4),none⟩,
         ⟨some 44,.call 219 [(.tmp 40),(.tmp 41),(.tmp 42),(.tmp 43)],none⟩])
        (.reg [] [⟨some 45,.mov (.tmp 3),none⟩,
         ⟨some 46,.arith .sub .i64 (.tmp 45) (.cst (.d (.int .i64 1))),none⟩,
         ⟨some 3,.mov (.tmp 46),none⟩]))
        .skip))
       (.seq
       (.reg [] [⟨some 48,.mov (.tmp 0),none⟩,
        ⟨some 49,.mov (.tmp 1),none⟩,
        ⟨some 50,.mov (.tmp 2),none⟩,
        ⟨some 51,.mov (.tmp 4),none⟩,
        ⟨some 52,.call 220 [(.tmp 48),(.tmp 49),(.tmp 50),(.tmp 51)],none⟩,
        ⟨some 47,.mov (.tmp 52),none⟩,
        ⟨some 53,.ext 0 (.tmp 47),none⟩,
        ⟨some 54,.ext 1 (.tmp 47),none⟩,
        ⟨some 13,.mov (.tmp 53),none⟩,
        ⟨some 14,.mov (.tmp 54),none⟩])
       (.seq
        (.seq
        (.reg [] [⟨some 55,.mov (.tmp 14),none⟩,
         ⟨some 56,.cmp .eql (.tmp 55) (.cst (.d (.int .i64 2))),none⟩])
        (.cond (.tmp 56)
         (.seq
         (.reg [] [⟨some 57,.mov (.tmp 0),none⟩,
          ⟨some 58,.mov (.tmp 1),none⟩,
          ⟨some 59,.mov (.tmp 2),none⟩,
          ⟨some 60,.mov (.tmp 4),none⟩,
          ⟨some 61,.call 221 [(.tmp 57),(.tmp 58),(.tmp 59),(.tmp 60)],none⟩])
         (.seq
          (.reg [] [⟨some 62,.mov (.tmp 2),none⟩,
           ⟨some 63,.arith .sub .i64 (.tmp 62) (.cst (.d (.int .i64 1))),none⟩,
           ⟨some 64,.mov (.tmp 13),none⟩,
           ⟨some 65,.mov (.tmp 1),none⟩,
           ⟨some 66,.arith .sub .i64 (.tmp 64) (.tmp 65),none⟩,
           ⟨some 67,.arith .sub .i64 (.tmp 63) (.tmp 66),none⟩,
           ⟨some 13,.mov (.tmp 67),none⟩])
          (.reg [] [⟨some 14,.mov (.cst (.d (.int .i64 1))),none⟩])))
         .skip))
        (.seq
        (.seq
         (.reg [] [⟨some 68,.mov (.tmp 10),none⟩,
          ⟨some 69,.mov (.tmp 68),none⟩,
          ⟨some 70,.mov (.tmp 11),some (69,true)⟩,
          ⟨some 71,.pick (.tmp 69) (.tmp 70) (.cst (.d (.bool false))),none⟩,
          ⟨some 72,.mov (.tmp 71),none⟩,
          ⟨some 73,.mov (.tmp 14),some (72,true)⟩,
          ⟨some 74,.cmp .eql (.tmp 73) (.cst (.d (.int .i64 1))),some (72,true)⟩,
          ⟨some 75,.pick (.tmp 72) (.tmp 74) (.cst (.d (.bool false))),none⟩])
         (.cond (.tmp 75)
         (.seq
          (.reg [] [⟨some 76,.mov (.tmp 0),none⟩,
           ⟨some 77,.mov (.tmp 1),none⟩,
           ⟨some 78,.mov (.tmp 2),none⟩,
           ⟨some 79,.mov (.tmp 4),none⟩,
           ⟨some 80,.call 222 [(.tmp 76),(.tmp 77),(.tmp 78),(.tmp 79)],none⟩])
          (.cond (.tmp 80)
          .ret
          .skip))
         .skip))
        (.seq
         (.seq
         (.regd [] [⟨some 81,.mov (.tmp 1),none⟩,
          ⟨some 82,.cmp .gtr (.tmp 81) (.cst (.d (.int .i64 0))),none⟩,
          ⟨some 83,.mov (.tmp 82),none⟩,
          ⟨some 84,.mov (.tmp 4),some (83,true)⟩,
          ⟨some 85,.mov (.tmp 0),some (83,true)⟩,
          ⟨some 86,.mov (.tmp 1),some (83,true)⟩,
          ⟨some 87,.arith .sub .i64 (.tmp 86) (.cst (.d (.int .i64 1))),some (83,true)⟩,
          ⟨some 88,.ixa 3 (.tmp 85) (.tmp 87),some (83,true)⟩,
          ⟨some 89,.ld true 3 (.tmp 88),some (83,true)⟩,
          ⟨some 90,.mov (.tmp 0),some (83,true)⟩,
          ⟨some 91,.mov (.tmp 13),some (83,true)⟩,
          ⟨some 92,.ixa 3 (.tmp 90) (.tmp 91),some (83,true)⟩,
          ⟨some 93,.ld true 3 (.tmp 92),some (83,true)⟩,
          ⟨some 94,.callv (.tmp 84) [(.tmp 89),(.tmp 93)],some (83,true)⟩,
          ⟨some 95,.cmp .lss (.tmp 94) (.cst (.d (.int .i64 0))),some (83,true)⟩,
          ⟨some 96,.not (.tmp 95),some (83,true)⟩,
          ⟨some 97,.pick (.tmp 83) (.tmp 96) (.cst (.d (.bool false))),none⟩] [(3,4),(3,5),(4,5),(3,6),(4,6),(3,7),(3,8),(3,9),(4,9),(5,9),(6,9),(7,9),(8,9),(3,10),(4,10),(5,10),(6,10),(7,10),(8,10),(9,10),(3,11),(4,11),(5,11),(6,11),(7,11),(8,11),(3,12),(4,12),(5,12),(6,12),(7,12),(8,12)])
         (.cond (.tmp 97)
          (.seq
          (.reg [] [⟨some 98,.mov (.tmp 0),none⟩,
           ⟨some 99,.mov (.tmp 1),none⟩,
           ⟨some 100,.mov (.tmp 2),none⟩,
           ⟨some 101,.mov (.tmp 13),none⟩,
           ⟨some 102,.mov (.tmp 4),none⟩,
           ⟨some 103,.call 223 [(.tmp 98),(.tmp 99),(.tmp 100),(.tmp 101),(.tmp 102)],none⟩,
           ⟨some 15,.mov (.tmp 103),none⟩])
          (.seq
           (.reg [] [⟨some 104,.mov (.tmp 15),none⟩,
            ⟨some 1,.mov (.tmp 104),none⟩])
           (.exit 1)))
          .skip))
         (.seq
         (.reg [] [⟨some 106,.mov (.tmp 0),none⟩,
          ⟨some 107,.mov (.tmp 1),none⟩,
          ⟨some 108,.mov (.tmp 2),none⟩,
          ⟨some 109,.mov (.tmp 13),none⟩,
          ⟨some 110,.mov (.tmp 4),none⟩,
          ⟨some 111,.call 224 [(.tmp 106),(.tmp 107),(.tmp 108),(.tmp 109),(.tmp 110)],none⟩,
          ⟨some 105,.mov (.tmp 111),none⟩,
          ⟨some 112,.ext 0 (.tmp 105),none⟩,
          ⟨some 113,.ext 1 (.tmp 105),none⟩,
          ⟨some 16,.mov (.tmp 112),none⟩,
          ⟨some 17,.mov (.tmp 113),none⟩])
         (.seq
          (.reg [] [⟨some 114,.mov (.tmp 17),none⟩,
           ⟨some 11,.mov (.tmp 114),none⟩])
          (.seq
          (.reg [] [⟨some 115,.mov (.tmp 16),none⟩,
           ⟨some 116,.mov (.tmp 1),none⟩,
           ⟨some 117,.arith .sub .i64 (.tmp 115) (.tmp 116),none⟩,
           ⟨some 118,.mov (.tmp 2),none⟩,
           ⟨some 119,.mov (.tmp 16),none⟩,
           ⟨some 120,.arith .sub .i64 (.tmp 118) (.tmp 119),none⟩,
           ⟨some 18,.mov (.tmp 117),none⟩,
           ⟨some 19,.mov (.tmp 120),none⟩])
          (.seq
           (.reg [] [⟨some 121,.mov (.tmp 12),none⟩,
            ⟨some 122,.arith .quo .i64 (.tmp 121) (.cst (.d (.int .i64 8))),none⟩,
            ⟨some 20,.mov (.tmp 122),none⟩])
           (.seq
           (.reg [] [⟨some 123,.mov (.tmp 18),none⟩,
            ⟨some 124,.mov (.tmp 19),none⟩,
            ⟨some 125,.cmp .lss (.tmp 123) (.tmp 124),none⟩])
           (.cond (.tmp 125)
            (.seq
            (.reg [] [⟨some 126,.mov (.tmp 18),none⟩,
             ⟨some 127,.mov (.tmp 20),none⟩,
             ⟨some 128,.cmp .geq (.tmp 126) (.tmp 127),none⟩,
             ⟨some 10,.mov (.tmp 128),none⟩])
            (.seq
             (.reg [] [⟨some 129,.mov (.tmp 0),none⟩,
              ⟨some 130,.mov (.tmp 1),none⟩,
              ⟨some 131,.mov (.tmp 16),none⟩,
              ⟨some 132,.mov (.tmp 3),none⟩,
              ⟨some 133,.mov (.tmp 4),none⟩,
              ⟨some 134,.calli 181 [(.tmp 129),(.tmp 130),(.tmp 131),(.tmp 132),(.tmp 133)],none⟩])
             (.reg [] [⟨some 135,.mov (.tmp 16),none⟩,
              ⟨some 136,.arith .add .i64 (.tmp 135) (.cst (.d (.int .i64 1))),none⟩,
              ⟨some 1,.mov (.tmp 136),none⟩])))
            (.seq
            (.reg [] [⟨some 137,.mov (.tmp 19),none⟩,
             ⟨some 138,.mov (.tmp 20),none⟩,
             ⟨some 139,.cmp .geq (.tmp 137) (.tmp 138),none⟩,
             ⟨some 10,.mov (.tmp 139),none⟩])
            (.seq
             (.reg [] [⟨some 140,.mov (.tmp 0),none⟩,
              ⟨some 141,.mov (.tmp 16),none⟩,
              ⟨some 142,.arith .add .i64 (.tmp 141) (.cst (.d (.int .i64 1))),none⟩,
              ⟨some 143,.mov (.tmp 2),none⟩,
              ⟨some 144,.mov (.tmp 3),none⟩,
              ⟨some 145,.mov (.tmp 4),none⟩,
              ⟨some 146,.calli 181 [(.tmp 140),(.tmp 142),(.tmp 143),(.tmp 144),(.tmp 145)],none⟩])
             (.reg [] [⟨some 147,.mov (.tmp 16),none⟩,
              ⟨some 2,.mov (.tmp 147),none⟩])))))))))))))))))))))))))⟩
def jr122:AFun:=⟨14,0,[],
 (.seq
 (.reg [] [⟨some 5,.mov (.tmp 0),none⟩,
  ⟨some 6,.len (.tmp 5),none⟩,
  ⟨some 4,.mov (.tmp 6),none⟩])
 (.reg [] [⟨some 7,.mov (.tmp 0),none⟩,
  ⟨some 8,.mov (.tmp 4),none⟩,
  ⟨some 9,.mov (.tmp 4),none⟩,
  ⟨some 10,.conv .u64 (.tmp 9),none⟩,
  ⟨some 11,.call 182 [(.tmp 10)],none⟩,
  ⟨some 12,.mov (.tmp 1),none⟩,
  ⟨some 13,.calli 181 [(.tmp 7),(.cst (.d (.int .i64 0))),(.tmp 8),(.tmp 11),(.tmp 12)],none⟩]))⟩
abbrev e1:Data × Data:=(.agg [.int .i64 0,.int .i64 1,.int .i64 50],.agg [.int .i64 0,.int .i64 1,.int .i64 4,.int .i64 200])
abbrev e2:Data × Data:=(.agg [.int .i64 0,.int .i64 0,.int .i64 100],.agg [.int .i64 0,.int .i64 0,.int .i64 8,.int .i64 840])
theorem split1 {α:Type} {e p:α} {l1 l2:List α} (h:[e]=l1++p::l2):l1=[]∧p=e∧l2=[]:=by
 cases l1 with
 | nil=>simp at h; exact ⟨rfl,h.1.symm,h.2⟩
 | cons a r=>simp at h
theorem split2 {α:Type} {d e p:α} {l1 l2:List α} (h:[d,e]=l1++p::l2):(l1=[]∧p=d∧l2=[e])∨(l1=[d]∧p=e∧l2=[]):=by
 cases l1 with
 | nil=>simp at h; exact Or.inl ⟨rfl,h.1.symm,h.2.symm⟩
 | cons a r =>
  cases r with
  | nil=>simp at h; exact Or.inr ⟨by rw [h.1],h.2.1.symm,h.2.2⟩
  | cons b s=>simp at h
def HL (r:List Data):List AObj:=[.none,.none,.none,.mapf (mpK 3),.box [.mp 3],.none,.none,.none,.none,.none,.row 59 3 r false,.none,.none,.none,.none,.none]
theorem cmp01:CallDet Tryz.prog 123 [.d (.agg [.int .i64 0,.int .i64 0,.int .i64 100]),.d (.agg [.int .i64 0,.int .i64 1,.int .i64 50])] [.int .i64 (-1)]:=c123 (0,0,100) (0,1,50)
theorem cmp10:CallDet Tryz.prog 123 [.d (.agg [.int .i64 0,.int .i64 1,.int .i64 50]),.d (.agg [.int .i64 0,.int .i64 0,.int .i64 100])] [.int .i64 1]:=c123 (0,1,50) (0,0,100)
theorem i217a:CallIn Tryz.prog 217 [.sl 10 2,.d (.int .i64 0),.d (.int .i64 2),.d (.fn (.func 123) [])] (HL ([.agg [.int .i64 0,.int .i64 1,.int .i64 50],.agg [.int .i64 0,.int .i64 0,.int .i64 100]])) (.tup []) (HL ([.agg [.int .i64 0,.int .i64 0,.int .i64 100],.agg [.int .i64 0,.int .i64 1,.int .i64 50]])):=by
 have c123_1:=cmp01
 have c123_2:=cmp10
 refine callIn_of_vc 11 (x:=jr217) (by kernel_rfl) rfl rfl rfl ?_
 refine ar_add ?_ ?_
 refine an ?_ ?_
 (show (-9223372036854775808:Int)≤(0:Int)+(1:Int); omega)
 (show (0:Int)+(1:Int)≤(9223372036854775807:Int); omega)
 rotate_left
 refine loop_st (fun p:Nat × List Data=>⟨[(0,.sl 10 2),(1,.d (.int .i64 0)),(2,.d (.int .i64 2)),(3,.d (.fn (.func 123) [])),(8,.d (.int .i64 (p.1:Int)))],HL (p.2)⟩) (fun p=>p=(1,[.agg [.int .i64 0,.int .i64 1,.int .i64 50],.agg [.int .i64 0,.int .i64 0,.int .i64 100]])∨p=(2,[.agg [.int .i64 0,.int .i64 0,.int .i64 100],.agg [.int .i64 0,.int .i64 1,.int .i64 50]])) (fun p=>3 - p.1) (1,[.agg [.int .i64 0,.int .i64 1,.int .i64 50],.agg [.int .i64 0,.int .i64 0,.int .i64 100]]) rfl (Or.inl rfl) ?_
 rintro p (h | h)
 ·subst h
  unfold HL
  refine sd ?_
  rotate_left
  refine loop_st (fun p:Nat × List Data=>⟨[(0,.sl 10 2),(1,.d (.int .i64 0)),(2,.d (.int .i64 2)),(3,.d (.fn (.func 123) [])),(8,.d (.int .i64 1)),(9,.d (.int .i64 (p.1:Int)))],HL (p.2)⟩) (fun p=>p=(1,[.agg [.int .i64 0,.int .i64 1,.int .i64 50],.agg [.int .i64 0,.int .i64 0,.int .i64 100]])∨p=(0,[.agg [.int .i64 0,.int .i64 0,.int .i64 100],.agg [.int .i64 0,.int .i64 1,.int .i64 50]])) (fun p=>p.1) (1,[.agg [.int .i64 0,.int .i64 1,.int .i64 50],.agg [.int .i64 0,.int .i64 0,.int .i64 100]]) rfl (Or.inl rfl) ?_
  rintro p (h | h)
  ·subst h
   unfold HL
   have h0:([.agg [.int .i64 0,.int .i64 1,.int .i64 50],.agg [.int .i64 0,.int .i64 0,.int .i64 100]]:List Data)[(0:Int).toNat]?=some (.agg [.int .i64 0,.int .i64 1,.int .i64 50]):=rfl
   have h1:([.agg [.int .i64 0,.int .i64 1,.int .i64 50],.agg [.int .i64 0,.int .i64 0,.int .i64 100]]:List Data)[(1:Int).toNat]?=some (.agg [.int .i64 0,.int .i64 0,.int .i64 100]):=rfl
   refine sd ?_
   refine an ?_ ?_
   refine an ?_ ?_
   exact rfl
   refine an ?_ ?_
   exact rfl
   refine an ?_ ?_
   (show (0:Int)≤(↑(1:Nat):Int); omega)
   (show (↑(1:Nat):Int) < (↑(2:Nat):Int); omega)
   refine sd ?_
   refine ca h1 ?_
   refine ar_sub ?_ ?_
   refine an ?_ ?_
   (show (-9223372036854775808:Int)≤(↑(1:Nat):Int) - (1:Int); omega)
   (show (↑(1:Nat):Int) - (1:Int)≤(9223372036854775807:Int); omega)
   refine an ?_ ?_
   refine an ?_ ?_
   exact rfl
   refine an ?_ ?_
   exact rfl
   refine an ?_ ?_
   (show (0:Int)≤(↑(1:Nat):Int) - (1:Int); omega)
   (show (↑(1:Nat):Int) - (1:Int) < (↑(2:Nat):Int); omega)
   refine sd ?_
   refine ca h0 ?_
   refine ca c123_1 ?_
   refine sd ?_
   refine ar_sub ?_ ?_
   refine an ?_ ?_
   (show (-9223372036854775808:Int)≤(↑(1:Nat):Int) - (1:Int); omega)
   (show (↑(1:Nat):Int) - (1:Int)≤(9223372036854775807:Int); omega)
   refine ar_sub ?_ ?_
   refine an ?_ ?_
   (show (-9223372036854775808:Int)≤(↑(1:Nat):Int) - (1:Int); omega)
   (show (↑(1:Nat):Int) - (1:Int)≤(9223372036854775807:Int); omega)
   refine an ?_ ?_
   refine an ?_ ?_
   exact rfl
   refine an ?_ ?_
   exact rfl
   refine an ?_ ?_
   (show (0:Int)≤(↑(1:Nat):Int) - (1:Int); omega)
   (show (↑(1:Nat):Int) - (1:Int) < (↑(2:Nat):Int); omega)
   refine sd ?_
   refine ca h0 ?_
   refine an ?_ ?_
   refine an ?_ ?_
   exact rfl
   refine an ?_ ?_
   exact rfl
   refine an ?_ ?_
   (show (0:Int)≤(↑(1:Nat):Int); omega)
   (show (↑(1:Nat):Int) < (↑(2:Nat):Int); omega)
   refine sd ?_
   refine ca h1 ?_
   refine an ?_ ?_
   refine an ?_ ?_
   exact rfl
   refine an ?_ ?_
   exact rfl
   refine an ?_ ?_
   (show (0:Int)≤(↑(1:Nat):Int); omega)
   (show (↑(1:Nat):Int) < (↑(2:Nat):Int); omega)
   refine Exists.intro _ (Exists.intro (Vc.Data.agg [Data.int IntKind.i64 (0:Int),Data.int IntKind.i64 (1:Int),Data.int IntKind.i64 (50:Int)]) (And.intro (And.intro ?_ (And.intro h1 (And.intro rfl (And.intro ?_ (And.intro rfl rfl))))) ?_))
   exact rfl
   (show (0:Nat)+(3:Nat)≤(1:Nat)+(1:Nat)+(1:Nat); omega)
   refine an ?_ ?_
   refine an ?_ ?_
   exact rfl
   refine an ?_ ?_
   exact rfl
   refine an ?_ ?_
   (show (0:Int)≤(↑(1:Nat):Int) - (1:Int); omega)
   (show (↑(1:Nat):Int) - (1:Int) < (↑(2:Nat):Int); omega)
   refine Exists.intro _ (Exists.intro (Vc.Data.agg [Data.int IntKind.i64 (0:Int),Data.int IntKind.i64 (0:Int),Data.int IntKind.i64 (100:Int)]) (And.intro (And.intro ?_ (And.intro h0 (And.intro rfl (And.intro ?_ (And.intro rfl rfl))))) ?_))
   exact rfl
   (show (0:Nat)+(3:Nat)≤(1:Nat)+(1:Nat)+(1:Nat); omega)
   refine ar_sub ?_ ?_
   refine an ?_ ?_
   (show (-9223372036854775808:Int)≤(↑(1:Nat):Int) - (1:Int); omega)
   (show (↑(1:Nat):Int) - (1:Int)≤(9223372036854775807:Int); omega)
   rotate_left
   exact ⟨(0,[.agg [.int .i64 0,.int .i64 0,.int .i64 100],.agg [.int .i64 0,.int .i64 1,.int .i64 50]]),⟨Or.inr rfl,by decide⟩,rfl⟩
  ·subst h
   unfold HL
   refine sd ?_
   refine sd ?_
   refine ar_add ?_ ?_
   refine an ?_ ?_
   (show (-9223372036854775808:Int)≤(1:Int)+(1:Int); omega)
   (show (1:Int)+(1:Int)≤(9223372036854775807:Int); omega)
   rotate_left
   exact ⟨(2,[.agg [.int .i64 0,.int .i64 0,.int .i64 100],.agg [.int .i64 0,.int .i64 1,.int .i64 50]]),⟨Or.inr rfl,by decide⟩,rfl⟩
 ·subst h
  unfold HL
  refine sd ?_
  refine sd ?_
  exact rfl
theorem i217b:CallIn Tryz.prog 217 [.sl 10 2,.d (.int .i64 0),.d (.int .i64 2),.d (.fn (.func 123) [])] (HL ([.agg [.int .i64 0,.int .i64 0,.int .i64 100],.agg [.int .i64 0,.int .i64 1,.int .i64 50]])) (.tup []) (HL ([.agg [.int .i64 0,.int .i64 0,.int .i64 100],.agg [.int .i64 0,.int .i64 1,.int .i64 50]])):=by
 have c123_1:=cmp01
 have c123_2:=cmp10
 refine callIn_of_vc 11 (x:=jr217) (by kernel_rfl) rfl rfl rfl ?_
 refine ar_add ?_ ?_
 refine an ?_ ?_
 (show (-9223372036854775808:Int)≤(0:Int)+(1:Int); omega)
 (show (0:Int)+(1:Int)≤(9223372036854775807:Int); omega)
 rotate_left
 refine loop_st (fun p:Nat × List Data=>⟨[(0,.sl 10 2),(1,.d (.int .i64 0)),(2,.d (.int .i64 2)),(3,.d (.fn (.func 123) [])),(8,.d (.int .i64 (p.1:Int)))],HL (p.2)⟩) (fun p=>p=(1,[.agg [.int .i64 0,.int .i64 0,.int .i64 100],.agg [.int .i64 0,.int .i64 1,.int .i64 50]])∨p=(2,[.agg [.int .i64 0,.int .i64 0,.int .i64 100],.agg [.int .i64 0,.int .i64 1,.int .i64 50]])) (fun p=>3 - p.1) (1,[.agg [.int .i64 0,.int .i64 0,.int .i64 100],.agg [.int .i64 0,.int .i64 1,.int .i64 50]]) rfl (Or.inl rfl) ?_
 rintro p (h | h)
 ·subst h
  unfold HL
  refine sd ?_
  rotate_left
  refine loop_st (fun p:Nat × List Data=>⟨[(0,.sl 10 2),(1,.d (.int .i64 0)),(2,.d (.int .i64 2)),(3,.d (.fn (.func 123) [])),(8,.d (.int .i64 1)),(9,.d (.int .i64 (p.1:Int)))],HL (p.2)⟩) (fun p=>p=(1,[.agg [.int .i64 0,.int .i64 0,.int .i64 100],.agg [.int .i64 0,.int .i64 1,.int .i64 50]])∨p=(0,[.agg [.int .i64 0,.int .i64 0,.int .i64 100],.agg [.int .i64 0,.int .i64 1,.int .i64 50]])) (fun p=>p.1) (1,[.agg [.int .i64 0,.int .i64 0,.int .i64 100],.agg [.int .i64 0,.int .i64 1,.int .i64 50]]) rfl (Or.inl rfl) ?_
  rintro p (h | h)
  ·subst h
   unfold HL
   have h0:([.agg [.int .i64 0,.int .i64 0,.int .i64 100],.agg [.int .i64 0,.int .i64 1,.int .i64 50]]:List Data)[(0:Int).toNat]?=some (.agg [.int .i64 0,.int .i64 0,.int .i64 100]):=rfl
   have h1:([.agg [.int .i64 0,.int .i64 0,.int .i64 100],.agg [.int .i64 0,.int .i64 1,.int .i64 50]]:List Data)[(1:Int).toNat]?=some (.agg [.int .i64 0,.int .i64 1,.int .i64 50]):=rfl
   refine sd ?_
   refine an ?_ ?_
   refine an ?_ ?_
   exact rfl
   refine an ?_ ?_
   exact rfl
   refine an ?_ ?_
   (show (0:Int)≤(↑(1:Nat):Int); omega)
   (show (↑(1:Nat):Int) < (↑(2:Nat):Int); omega)
   refine sd ?_
   refine ca h1 ?_
   refine ar_sub ?_ ?_
   refine an ?_ ?_
   (show (-9223372036854775808:Int)≤(↑(1:Nat):Int) - (1:Int); omega)
   (show (↑(1:Nat):Int) - (1:Int)≤(9223372036854775807:Int); omega)
   refine an ?_ ?_
   refine an ?_ ?_
   exact rfl
   refine an ?_ ?_
   exact rfl
   refine an ?_ ?_
   (show (0:Int)≤(↑(1:Nat):Int) - (1:Int); omega)
   (show (↑(1:Nat):Int) - (1:Int) < (↑(2:Nat):Int); omega)
   refine sd ?_
   refine ca h0 ?_
   refine ca c123_2 ?_
   refine sd ?_
   refine ar_add ?_ ?_
   refine an ?_ ?_
   (show (-9223372036854775808:Int)≤(1:Int)+(1:Int); omega)
   (show (1:Int)+(1:Int)≤(9223372036854775807:Int); omega)
   rotate_left
   exact ⟨(2,[.agg [.int .i64 0,.int .i64 0,.int .i64 100],.agg [.int .i64 0,.int .i64 1,.int .i64 50]]),⟨Or.inr rfl,by decide⟩,rfl⟩
  ·subst h
   unfold HL
   refine sd ?_
   refine sd ?_
   refine ar_add ?_ ?_
   refine an ?_ ?_
   (show (-9223372036854775808:Int)≤(1:Int)+(1:Int); omega)
   (show (1:Int)+(1:Int)≤(9223372036854775807:Int); omega)
   rotate_left
   exact ⟨(2,[.agg [.int .i64 0,.int .i64 0,.int .i64 100],.agg [.int .i64 0,.int .i64 1,.int .i64 50]]),⟨Or.inr rfl,by decide⟩,rfl⟩
 ·subst h
  unfold HL
  refine sd ?_
  refine sd ?_
  exact rfl
theorem i181a (lim:Int):CallIn Tryz.prog 181 [.sl 10 2,.d (.int .i64 0),.d (.int .i64 2),.d (.int .i64 lim),.d (.fn (.func 123) [])] (HL ([.agg [.int .i64 0,.int .i64 1,.int .i64 50],.agg [.int .i64 0,.int .i64 0,.int .i64 100]])) (.tup []) (HL ([.agg [.int .i64 0,.int .i64 0,.int .i64 100],.agg [.int .i64 0,.int .i64 1,.int .i64 50]])):=by
 have hi:=i217a
 refine callIn_of_vc 11 (x:=jr181) (by kernel_rfl) rfl rfl rfl ?_
 refine loop_st (fun p:Nat=>⟨[(0,.sl 10 2),(1,.d (.int .i64 0)),(2,.d (.int .i64 2)),(3,.d (.int .i64 lim)),(4,.d (.fn (.func 123) [])),(10,.d (.bool true)),(11,.d (.bool true))],HL ([.agg [.int .i64 0,.int .i64 1,.int .i64 50],.agg [.int .i64 0,.int .i64 0,.int .i64 100]])⟩) (fun _=>True) (fun p=>p) 0 rfl trivial ?_
 rintro p _
 unfold HL
 refine ar_sub ?_ ?_
 refine an ?_ ?_
 (show (-9223372036854775808:Int)≤(2:Int) - (0:Int); omega)
 (show (2:Int) - (0:Int)≤(9223372036854775807:Int); omega)
 refine sd ?_
 rotate_left
 refine Exists.intro (.tup []) (Exists.intro [(10,.row 59 3 ([.agg [.int .i64 0,.int .i64 0,.int .i64 100],.agg [.int .i64 0,.int .i64 1,.int .i64 50]]) false)] (And.intro hi ?_))
 refine sd ?_
 exact rfl
theorem i122a:CallIn Tryz.prog 122 [.sl 10 2,.d (.fn (.func 123) [])] (HL ([.agg [.int .i64 0,.int .i64 1,.int .i64 50],.agg [.int .i64 0,.int .i64 0,.int .i64 100]])) (.tup []) (HL ([.agg [.int .i64 0,.int .i64 0,.int .i64 100],.agg [.int .i64 0,.int .i64 1,.int .i64 50]])):=by
 have hi:=i181a
 refine callIn_of_vc 11 (x:=jr122) (by kernel_rfl) rfl rfl rfl ?_
 unfold HL
 refine sd ?_
 refine ca rfl ?_
 refine ca (c182 _ ?_) ?_
 refine an ?_ ?_
 rotate_left
 rotate_left
 rotate_left
 ·exact of_decide_eq_true (by kernel_rfl)
 ·exact of_decide_eq_true (by kernel_rfl)
 refine Exists.intro (.tup []) (Exists.intro [(10,.row 59 3 ([.agg [.int .i64 0,.int .i64 0,.int .i64 100],.agg [.int .i64 0,.int .i64 1,.int .i64 50]]) false)] (And.intro (hi _) ?_))
 refine sd ?_
 exact rfl
theorem i181b (lim:Int):CallIn Tryz.prog 181 [.sl 10 2,.d (.int .i64 0),.d (.int .i64 2),.d (.int .i64 lim),.d (.fn (.func 123) [])] (HL ([.agg [.int .i64 0,.int .i64 0,.int .i64 100],.agg [.int .i64 0,.int .i64 1,.int .i64 50]])) (.tup []) (HL ([.agg [.int .i64 0,.int .i64 0,.int .i64 100],.agg [.int .i64 0,.int .i64 1,.int .i64 50]])):=by
 have hi:=i217b
 refine callIn_of_vc 11 (x:=jr181) (by kernel_rfl) rfl rfl rfl ?_
 refine loop_st (fun p:Nat=>⟨[(0,.sl 10 2),(1,.d (.int .i64 0)),(2,.d (.int .i64 2)),(3,.d (.int .i64 lim)),(4,.d (.fn (.func 123) [])),(10,.d (.bool true)),(11,.d (.bool true))],HL ([.agg [.int .i64 0,.int .i64 0,.int .i64 100],.agg [.int .i64 0,.int .i64 1,.int .i64 50]])⟩) (fun _=>True) (fun p=>p) 0 rfl trivial ?_
 rintro p _
 unfold HL
 refine ar_sub ?_ ?_
 refine an ?_ ?_
 (show (-9223372036854775808:Int)≤(2:Int) - (0:Int); omega)
 (show (2:Int) - (0:Int)≤(9223372036854775807:Int); omega)
 refine sd ?_
 rotate_left
 refine Exists.intro (.tup []) (Exists.intro [(10,.row 59 3 ([.agg [.int .i64 0,.int .i64 0,.int .i64 100],.agg [.int .i64 0,.int .i64 1,.int .i64 50]]) false)] (And.intro hi ?_))
 refine sd ?_
 exact rfl
theorem i122b:CallIn Tryz.prog 122 [.sl 10 2,.d (.fn (.func 123) [])] (HL ([.agg [.int .i64 0,.int .i64 0,.int .i64 100],.agg [.int .i64 0,.int .i64 1,.int .i64 50]])) (.tup []) (HL ([.agg [.int .i64 0,.int .i64 0,.int .i64 100],.agg [.int .i64 0,.int .i64 1,.int .i64 50]])):=by
 have hi:=i181b
 refine callIn_of_vc 11 (x:=jr122) (by kernel_rfl) rfl rfl rfl ?_
 unfold HL
 refine sd ?_
 refine ca rfl ?_
 refine ca (c182 _ ?_) ?_
 refine an ?_ ?_
 rotate_left
 rotate_left
 rotate_left
 ·exact of_decide_eq_true (by kernel_rfl)
 ·exact of_decide_eq_true (by kernel_rfl)
 refine Exists.intro (.tup []) (Exists.intro [(10,.row 59 3 ([.agg [.int .i64 0,.int .i64 0,.int .i64 100],.agg [.int .i64 0,.int .i64 1,.int .i64 50]]) false)] (And.intro (hi _) ?_))
 refine sd ?_
 exact rfl
theorem i125a:CallIn Tryz.prog 125 [.d (.agg [.int .i64 0,.int .i64 0,.int .i64 100]),.ptr 4 0] [.none,.none,.none,.mapf (mpK 3),.box [.mp 3],.none,.none,.none,.none,.none,.row 59 3 [.agg [.int .i64 0,.int .i64 0,.int .i64 100],.agg [.int .i64 0,.int .i64 1,.int .i64 50]] true,.box [.d (.int .i64 0),.d (.int .i64 0),.d (.int .i64 100)],.none,.row 163 4 [] false,.none,.none] (.d (.agg [.int .i64 0,.int .i64 0,.int .i64 8,.int .i64 840])) [.none,.none,.none,.mapf (mpK 3),.box [.mp 3],.none,.none,.none,.none,.none,.row 59 3 [.agg [.int .i64 0,.int .i64 0,.int .i64 100],.agg [.int .i64 0,.int .i64 1,.int .i64 50]] true,.box [.d (.int .i64 0),.d (.int .i64 0),.d (.int .i64 100)],.none,.row 163 4 [] false,.cbox [.int .i64 0,.int .i64 0,.int .i64 100],.box [.d (.int .i64 0),.d (.int .i64 0),.d (.int .i64 8),.d (.int .i64 840)]]:=by
 refine callIn_of_vc 14 (x:=jr125) (by kernel_rfl) rfl rfl rfl ?_
 rotate_left
 refine Exists.intro [.agg [.int .i64 0,.int .i64 0,.int .i64 8,.int .i64 840],.bool true] (And.intro ⟨rfl,rfl,Or.inl ⟨_,rfl,rfl⟩⟩ ?_)
 refine sd ?_
 exact rfl
theorem i125b:CallIn Tryz.prog 125 [.d (.agg [.int .i64 0,.int .i64 1,.int .i64 50]),.ptr 4 0] [.none,.none,.none,.mapf (mpK 3),.box [.mp 3],.none,.none,.none,.none,.none,.row 59 3 [.agg [.int .i64 0,.int .i64 0,.int .i64 100],.agg [.int .i64 0,.int .i64 1,.int .i64 50]] true,.box [.d (.int .i64 0),.d (.int .i64 1),.d (.int .i64 50)],.none,.row 163 4 [.agg [.int .i64 0,.int .i64 0,.int .i64 8,.int .i64 840]] false,.none,.none] (.d (.agg [.int .i64 0,.int .i64 1,.int .i64 4,.int .i64 200])) [.none,.none,.none,.mapf (mpK 3),.box [.mp 3],.none,.none,.none,.none,.none,.row 59 3 [.agg [.int .i64 0,.int .i64 0,.int .i64 100],.agg [.int .i64 0,.int .i64 1,.int .i64 50]] true,.box [.d (.int .i64 0),.d (.int .i64 1),.d (.int .i64 50)],.none,.row 163 4 [.agg [.int .i64 0,.int .i64 0,.int .i64 8,.int .i64 840]] false,.cbox [.int .i64 0,.int .i64 1,.int .i64 50],.box [.d (.int .i64 0),.d (.int .i64 1),.d (.int .i64 4),.d (.int .i64 200)]]:=by
 refine callIn_of_vc 14 (x:=jr125) (by kernel_rfl) rfl rfl rfl ?_
 rotate_left
 refine Exists.intro [.agg [.int .i64 0,.int .i64 1,.int .i64 4,.int .i64 200],.bool true] (And.intro ⟨rfl,rfl,Or.inl ⟨_,rfl,rfl⟩⟩ ?_)
 refine sd ?_
 exact rfl
def lnK:Nat→List Data
 | 0=>[]
 | 1=>[.agg [.int .i64 0,.int .i64 0,.int .i64 8,.int .i64 840]]
 | _=>[.agg [.int .i64 0,.int .i64 0,.int .i64 8,.int .i64 840],.agg [.int .i64 0,.int .i64 1,.int .i64 4,.int .i64 200]]
theorem i124:CallIn Tryz.prog 124 [.d (.slice 3 [.agg [.int .i64 0,.int .i64 0,.int .i64 100],.agg [.int .i64 0,.int .i64 1,.int .i64 50]]),.fn (.func 125) [] [.ptr 4 0]] [.none,.none,.none,.mapf (mpK 3),.box [.mp 3],.none,.none,.none,.none,.none,.row 59 3 [.agg [.int .i64 0,.int .i64 0,.int .i64 100],.agg [.int .i64 0,.int .i64 1,.int .i64 50]] true,.none,.none,.none,.none,.none] (.sl 13 2) [.none,.none,.none,.mapf (mpK 3),.box [.mp 3],.none,.none,.none,.none,.none,.row 59 3 [.agg [.int .i64 0,.int .i64 0,.int .i64 100],.agg [.int .i64 0,.int .i64 1,.int .i64 50]] true,.none,.none,.row 163 4 [.agg [.int .i64 0,.int .i64 0,.int .i64 8,.int .i64 840],.agg [.int .i64 0,.int .i64 1,.int .i64 4,.int .i64 200]] false,.none,.none]:=by
 have h1:=i125a
 have h2:=i125b
 refine callIn_of_vc 11 (x:=jr124) (by kernel_rfl) rfl rfl rfl ?_
 rotate_left
 refine loop_st (fun k:Nat=>⟨[(1,.fn (.func 125) [] [.ptr 4 0]),(5,.sl 13 (lnK k).length),(8,.d (.slice 3 [.agg [.int .i64 0,.int .i64 0,.int .i64 100],.agg [.int .i64 0,.int .i64 1,.int .i64 50]])),(9,.d (.int .i64 2)),(10,.d (.int .i64 (k:Int)))],[.none,.none,.none,.mapf (mpK 3),.box [.mp 3],.none,.none,.none,.none,.none,.row 59 3 [.agg [.int .i64 0,.int .i64 0,.int .i64 100],.agg [.int .i64 0,.int .i64 1,.int .i64 50]] true,.none,.none,.row 163 4 (lnK k) false,.none,.none]⟩) (fun k=>k≤2) (fun k=>2 - k) 0 rfl (by decide) ?_
 rintro k hk
 dsimp only
 match k,hk with
 | 0,hk =>
  have hx:([.agg [.int .i64 0,.int .i64 0,.int .i64 100],.agg [.int .i64 0,.int .i64 1,.int .i64 50]]:List Data)[(((0:Nat):Int)).toNat]?=some (.agg [.int .i64 0,.int .i64 0,.int .i64 100]):=rfl
  refine sd ?_
  refine ix_at hx ?_ ?_
  (show (0:Int)≤(↑(0:Nat):Int); omega)
  rotate_left
  refine Exists.intro (.d (.agg [.int .i64 0,.int .i64 0,.int .i64 8,.int .i64 840])) (Exists.intro [(14,.cbox [.int .i64 0,.int .i64 0,.int .i64 100]),(15,.box [.d (.int .i64 0),.d (.int .i64 0),.d (.int .i64 8),.d (.int .i64 840)])] (And.intro h1 ?_))
  refine sd ?_
  refine sd ?_
  refine sd ?_
  refine an ?_ ?_
  refine an ?_ ?_
  exact rfl
  refine an ?_ ?_
  exact rfl
  refine an ?_ ?_
  exact rfl
  refine an ?_ ?_
  (show ((0:Nat)+(1:Nat)) * (32:Nat)≤(2:Nat) ^ (47:Nat); omega)
  (show (0:Nat)+(1:Nat)≤(2:Nat) ^ (47:Nat); omega)
  refine ar_add ?_ ?_
  refine an ?_ ?_
  (show (-9223372036854775808:Int)≤(↑(0:Nat):Int)+(1:Int); omega)
  (show (↑(0:Nat):Int)+(1:Int)≤(9223372036854775807:Int); omega)
  rotate_left
  exact ⟨1,⟨by decide,by decide⟩,rfl⟩
 | 1,hk =>
  have hx:([.agg [.int .i64 0,.int .i64 0,.int .i64 100],.agg [.int .i64 0,.int .i64 1,.int .i64 50]]:List Data)[(((1:Nat):Int)).toNat]?=some (.agg [.int .i64 0,.int .i64 1,.int .i64 50]):=rfl
  refine sd ?_
  refine ix_at hx ?_ ?_
  (show (0:Int)≤(↑(1:Nat):Int); omega)
  rotate_left
  refine Exists.intro (.d (.agg [.int .i64 0,.int .i64 1,.int .i64 4,.int .i64 200])) (Exists.intro [(14,.cbox [.int .i64 0,.int .i64 1,.int .i64 50]),(15,.box [.d (.int .i64 0),.d (.int .i64 1),.d (.int .i64 4),.d (.int .i64 200)])] (And.intro h2 ?_))
  refine sd ?_
  refine sd ?_
  refine sd ?_
  refine an ?_ ?_
  refine an ?_ ?_
  exact rfl
  refine an ?_ ?_
  exact rfl
  refine an ?_ ?_
  exact rfl
  refine an ?_ ?_
  (show ((1:Nat)+(1:Nat)) * (32:Nat)≤(2:Nat) ^ (47:Nat); omega)
  (show (1:Nat)+(1:Nat)≤(2:Nat) ^ (47:Nat); omega)
  refine ar_add ?_ ?_
  refine an ?_ ?_
  (show (-9223372036854775808:Int)≤(↑(1:Nat):Int)+(1:Int); omega)
  (show (↑(1:Nat):Int)+(1:Int)≤(9223372036854775807:Int); omega)
  rotate_left
  exact ⟨2,⟨by decide,by decide⟩,rfl⟩
 | 2,hk =>
  refine sd ?_
  refine sd ?_
  exact rfl
 | k+3,hk=>exact absurd hk (by omega)
theorem c49a:CallDet Tryz.prog 49 [.d bookD,.d shortD,.d (.int .i64 0)] [.slice 4 [.agg [.int .i64 0,.int .i64 0,.int .i64 8,.int .i64 840],.agg [.int .i64 0,.int .i64 1,.int .i64 4,.int .i64 200]],.int .i64 0]:=by
 have c120_:=m120
 have c121_:=m121
 unfold bookD shortD at *
 refine call_of_vc (x:=jr49) (by kernel_rfl) rfl ?_
 refine ca c120_ ?_
 refine sd ?_
 refine ca c121_ ?_
 refine sd ?_
 rotate_left
 refine loop_st (fun k:Nat=>⟨[(12,.ptr 4 0),(37,.d (.slice 5 [.agg [.int .i64 0,.int .i64 1,.int .i64 50,.int .i64 4,.int .i64 200],.agg [.int .i64 0,.int .i64 0,.int .i64 100,.int .i64 5,.int .i64 500],.agg [.int .i64 0,.int .i64 0,.int .i64 100,.int .i64 3,.int .i64 340]])),(38,.d (.int .i64 3)),(39,.d (.int .i64 (k:Int)))],[.none,.none,.none,.mapo (mpK k),.box [.mp 3],.none,.none,.none,.none,.none,.none,.none,.none,.none,.none,.none]⟩) (fun k=>k≤3) (fun k=>3 - k) 0 rfl (by decide) ?_
 rintro k hk
 dsimp only
 match k,hk with
 | 0,hk =>
  have hx1:([.agg [.int .i64 0,.int .i64 1,.int .i64 50,.int .i64 4,.int .i64 200],.agg [.int .i64 0,.int .i64 0,.int .i64 100,.int .i64 5,.int .i64 500],.agg [.int .i64 0,.int .i64 0,.int .i64 100,.int .i64 3,.int .i64 340]]:List Data)[(((0:Nat):Int)).toNat]?=some (.agg [.int .i64 0,.int .i64 1,.int .i64 50,.int .i64 4,.int .i64 200]):=rfl
  refine sd ?_
  refine ix_at hx1 ?_ ?_
  (show (0:Int)≤(↑(0:Nat):Int); omega)
  rotate_left
  refine Exists.intro [.agg [.int .i64 0,.int .i64 0,.int .i64 0,.int .i64 0],.bool false] (And.intro ⟨rfl,rfl,Or.inr ⟨rfl,rfl⟩⟩ ?_)
  refine ar_add ?_ ?_
  refine an ?_ ?_
  (show (-9223372036854775808:Int)≤(0:Int)+(4:Int); omega)
  (show (0:Int)+(4:Int)≤(9223372036854775807:Int); omega)
  refine ar_add ?_ ?_
  refine an ?_ ?_
  (show (-9223372036854775808:Int)≤(0:Int)+(200:Int); omega)
  (show (0:Int)+(200:Int)≤(9223372036854775807:Int); omega)
  refine an ?_ ?_
  refine an ?_ ?_
  exact rfl
  exact rfl
  refine ar_add ?_ ?_
  refine an ?_ ?_
  (show (-9223372036854775808:Int)≤(↑(0:Nat):Int)+(1:Int); omega)
  (show (↑(0:Nat):Int)+(1:Int)≤(9223372036854775807:Int); omega)
  rotate_left
  exact ⟨1,⟨by omega,by omega⟩,rfl⟩
 | 1,hk =>
  have hx1:([.agg [.int .i64 0,.int .i64 1,.int .i64 50,.int .i64 4,.int .i64 200],.agg [.int .i64 0,.int .i64 0,.int .i64 100,.int .i64 5,.int .i64 500],.agg [.int .i64 0,.int .i64 0,.int .i64 100,.int .i64 3,.int .i64 340]]:List Data)[(((1:Nat):Int)).toNat]?=some (.agg [.int .i64 0,.int .i64 0,.int .i64 100,.int .i64 5,.int .i64 500]):=rfl
  refine sd ?_
  refine ix_at hx1 ?_ ?_
  (show (0:Int)≤(↑(1:Nat):Int); omega)
  rotate_left
  refine Exists.intro [.agg [.int .i64 0,.int .i64 0,.int .i64 0,.int .i64 0],.bool false] (And.intro ⟨rfl,rfl,Or.inr ⟨rfl,rfl⟩⟩ ?_)
  refine ar_add ?_ ?_
  refine an ?_ ?_
  (show (-9223372036854775808:Int)≤(0:Int)+(5:Int); omega)
  (show (0:Int)+(5:Int)≤(9223372036854775807:Int); omega)
  refine ar_add ?_ ?_
  refine an ?_ ?_
  (show (-9223372036854775808:Int)≤(0:Int)+(500:Int); omega)
  (show (0:Int)+(500:Int)≤(9223372036854775807:Int); omega)
  refine an ?_ ?_
  refine an ?_ ?_
  exact rfl
  exact rfl
  refine ar_add ?_ ?_
  refine an ?_ ?_
  (show (-9223372036854775808:Int)≤(↑(1:Nat):Int)+(1:Int); omega)
  (show (↑(1:Nat):Int)+(1:Int)≤(9223372036854775807:Int); omega)
  rotate_left
  exact ⟨2,⟨by omega,by omega⟩,rfl⟩
 | 2,hk =>
  have hx1:([.agg [.int .i64 0,.int .i64 1,.int .i64 50,.int .i64 4,.int .i64 200],.agg [.int .i64 0,.int .i64 0,.int .i64 100,.int .i64 5,.int .i64 500],.agg [.int .i64 0,.int .i64 0,.int .i64 100,.int .i64 3,.int .i64 340]]:List Data)[(((2:Nat):Int)).toNat]?=some (.agg [.int .i64 0,.int .i64 0,.int .i64 100,.int .i64 3,.int .i64 340]):=rfl
  refine sd ?_
  refine ix_at hx1 ?_ ?_
  (show (0:Int)≤(↑(2:Nat):Int); omega)
  rotate_left
  refine Exists.intro [.agg [.int .i64 0,.int .i64 0,.int .i64 5,.int .i64 500],.bool true] (And.intro ⟨rfl,rfl,Or.inl ⟨_,rfl,rfl⟩⟩ ?_)
  refine ar_add ?_ ?_
  refine an ?_ ?_
  (show (-9223372036854775808:Int)≤(5:Int)+(3:Int); omega)
  (show (5:Int)+(3:Int)≤(9223372036854775807:Int); omega)
  refine ar_add ?_ ?_
  refine an ?_ ?_
  (show (-9223372036854775808:Int)≤(500:Int)+(340:Int); omega)
  (show (500:Int)+(340:Int)≤(9223372036854775807:Int); omega)
  refine an ?_ ?_
  refine an ?_ ?_
  exact rfl
  exact rfl
  refine ar_add ?_ ?_
  refine an ?_ ?_
  (show (-9223372036854775808:Int)≤(↑(2:Nat):Int)+(1:Int); omega)
  (show (↑(2:Nat):Int)+(1:Int)≤(9223372036854775807:Int); omega)
  rotate_left
  exact ⟨3,⟨by omega,by omega⟩,rfl⟩
 | 3,hk =>
  refine sd ?_
  rotate_left
  refine loop_st (fun p:List Data × MCur × List (Data × Data)=>⟨[(12,.ptr 4 0),(16,.sl 10 (p.1).length),(69,.mi 7)],[.none,.none,.none,.mapf (mpK 3),.box [.mp 3],.none,.none,.mit 3 p.2.1 p.2.2,.none,.none,.row 59 3 (p.1) false,.none,.none,.none,.none,.none]⟩) (fun p=>p=([],.start,[e1,e2])∨p=([e1.1],.here e1.1 e1.2,[e2])∨p=([e2.1],.here e2.1 e2.2,[e1])∨p=([e1.1,e2.1],.here e2.1 e2.2,[])∨p=([e2.1,e1.1],.here e1.1 e1.2,[])) (fun p=>p.2.2.length) ([],.start,[e1,e2]) rfl (Or.inl rfl) ?_
  rintro p (h | h | h | h | h)
  ·subst h
   intro t1
   intro t2
   intro t3
   intro t4
   intro t5
   rotate_left
   rcases split2 t5 with ⟨h1,h2,h3⟩ | ⟨h1,h2,h3⟩
   ·subst h1 h3
    cases h2
    refine sd ?_
    refine sd ?_
    refine sd ?_
    refine an ?_ ?_
    refine an ?_ ?_
    exact rfl
    refine an ?_ ?_
    exact rfl
    refine an ?_ ?_
    exact rfl
    refine an ?_ ?_
    (show ((0:Nat)+(1:Nat)) * (24:Nat)≤(2:Nat) ^ (47:Nat); omega)
    (show (0:Nat)+(1:Nat)≤(2:Nat) ^ (47:Nat); omega)
    rotate_left
    exact ⟨([e1.1],.here e1.1 e1.2,[e2]),⟨Or.inr (Or.inl rfl),by decide⟩,rfl⟩
   ·subst h1 h3
    cases h2
    refine sd ?_
    refine sd ?_
    refine sd ?_
    refine an ?_ ?_
    refine an ?_ ?_
    exact rfl
    refine an ?_ ?_
    exact rfl
    refine an ?_ ?_
    exact rfl
    refine an ?_ ?_
    (show ((0:Nat)+(1:Nat)) * (24:Nat)≤(2:Nat) ^ (47:Nat); omega)
    (show (0:Nat)+(1:Nat)≤(2:Nat) ^ (47:Nat); omega)
    rotate_left
    exact ⟨([e2.1],.here e2.1 e2.2,[e1]),⟨Or.inr (Or.inr (Or.inl rfl)),by decide⟩,rfl⟩
  ·subst h
   intro t1
   intro t2
   intro t3
   intro t4
   intro t5
   rotate_left
   obtain ⟨h1,h2,h3⟩:=split1 t5
   subst h1 h3
   cases h2
   refine sd ?_
   refine sd ?_
   refine sd ?_
   refine an ?_ ?_
   refine an ?_ ?_
   exact rfl
   refine an ?_ ?_
   exact rfl
   refine an ?_ ?_
   exact rfl
   refine an ?_ ?_
   (show ((1:Nat)+(1:Nat)) * (24:Nat)≤(2:Nat) ^ (47:Nat); omega)
   (show (1:Nat)+(1:Nat)≤(2:Nat) ^ (47:Nat); omega)
   rotate_left
   exact ⟨([e1.1,e2.1],.here e2.1 e2.2,[]),⟨Or.inr (Or.inr (Or.inr (Or.inl rfl))),by decide⟩,rfl⟩
  ·subst h
   intro t1
   intro t2
   intro t3
   intro t4
   intro t5
   rotate_left
   obtain ⟨h1,h2,h3⟩:=split1 t5
   subst h1 h3
   cases h2
   refine sd ?_
   refine sd ?_
   refine sd ?_
   refine an ?_ ?_
   refine an ?_ ?_
   exact rfl
   refine an ?_ ?_
   exact rfl
   refine an ?_ ?_
   exact rfl
   refine an ?_ ?_
   (show ((1:Nat)+(1:Nat)) * (24:Nat)≤(2:Nat) ^ (47:Nat); omega)
   (show (1:Nat)+(1:Nat)≤(2:Nat) ^ (47:Nat); omega)
   rotate_left
   exact ⟨([e2.1,e1.1],.here e1.1 e1.2,[]),⟨Or.inr (Or.inr (Or.inr (Or.inr rfl))),by decide⟩,rfl⟩
  ·subst h
   rotate_left
   refine Exists.intro (.tup []) (Exists.intro [(10,.row 59 3 ([.agg [.int .i64 0,.int .i64 0,.int .i64 100],.agg [.int .i64 0,.int .i64 1,.int .i64 50]]) false)] (And.intro i122a ?_))
   rotate_left
   refine Exists.intro (.sl 13 2) (Exists.intro [(13,.row 163 4 [.agg [.int .i64 0,.int .i64 0,.int .i64 8,.int .i64 840],.agg [.int .i64 0,.int .i64 1,.int .i64 4,.int .i64 200]] false)] (And.intro i124 ?_))
   refine sd ?_
   exact rfl
  ·subst h
   rotate_left
   refine Exists.intro (.tup []) (Exists.intro [(10,.row 59 3 ([.agg [.int .i64 0,.int .i64 0,.int .i64 100],.agg [.int .i64 0,.int .i64 1,.int .i64 50]]) false)] (And.intro i122b ?_))
   rotate_left
   refine Exists.intro (.sl 13 2) (Exists.intro [(13,.row 163 4 [.agg [.int .i64 0,.int .i64 0,.int .i64 8,.int .i64 840],.agg [.int .i64 0,.int .i64 1,.int .i64 4,.int .i64 200]] false)] (And.intro i124 ?_))
   refine sd ?_
   exact rfl
 | k+4,hk=>exact absurd hk (by omega)
end Vc
