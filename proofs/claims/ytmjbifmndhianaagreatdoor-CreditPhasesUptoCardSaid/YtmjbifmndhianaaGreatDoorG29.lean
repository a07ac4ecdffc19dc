import Derived.Test.YtmjbifmndhianaaGreatDoorG27
import Derived.Test.YtmjbifmndhianaaGreatDoorG28
import Derived.Test.YtmjbifmndhianaaGreatDoorG24
set_option linter.unusedSectionVars false
set_option linter.unusedVariables false
set_option linter.unusedSimpArgs false
set_option maxRecDepth 10000
set_option maxHeartbeats 4000000
namespace Vc
open Go Go.Proofs
@[irreducible] def seg9:ACode:=(.loop
 (.post [3,4,5,7,8] [5,6]
 (.seq
 (.seq
 (.reg [] [⟨some 71,.ld false 1 (.tmp 7),none⟩,
 ⟨some 72,.len (.tmp 71),none⟩,
 ⟨some 73,.cmp .lss (.tmp 72) (.cst (.d (.int .i64 4))),none⟩])
 (.cond (.tmp 73)
 .skip
 (.exit 0)))
 (.seq
 (.block 1
 (.seq
 (.reg [] [⟨some 76,.fad 21 (.tmp 3),none⟩,
 ⟨some 77,.ld false 1 (.tmp 76),none⟩,
 ⟨some 78,.mov (.tmp 8),none⟩,
 ⟨some 79,.call 66 [(.tmp 77),(.tmp 78)],none⟩,
 ⟨some 80,.not (.tmp 79),none⟩])
 (.cond (.tmp 80)
 (.reg [5,6] [⟨some 81,.ld false 1 (.tmp 7),none⟩,
 ⟨some 82,.mov (.tmp 8),none⟩,
 ⟨some 83,.bsl 5 3 1 1 [(.int .i64 0)] [(0,(.tmp 82))],none⟩,
 ⟨some 84,.app 6 3 1 8 (.tmp 81) (.tmp 83),none⟩,
 ⟨none,.st 1 (.tmp 7) (.tmp 84),none⟩])
 .skip)))
 (.reg [] [⟨some 74,.mov (.tmp 8),none⟩,
 ⟨some 75,.arith .add .i64 (.tmp 74) (.cst (.d (.int .i64 1))),none⟩,
 ⟨some 8,.mov (.tmp 75),none⟩])))))
def jr69:AFun:=⟨22,3,[.cell 6 10 true],
 (.seq
 (.reg [0,1] [⟨some 4,.cbx 0 8 (.tmp 0),none⟩,
  ⟨some 6,.alloc 1 [(.d (.int .i64 0)),(.d (.int .i64 0)),(.d (.int .u8 0)),(.d (.int .u8 0)),(.d (.int .u8 0)),(.d (.int .u8 0)),(.d (.int .u8 0)),(.d (.int .u8 0)),(.d (.int .u8 0)),(.d (.int .u8 0))],none⟩])
 (.seq
  (.regd [2] [⟨some 10,.ld true 8 (.tmp 4),none⟩,
   ⟨some 11,.ld false 1 (.tmp 2),none⟩,
   ⟨some 12,.mov (.tmp 1),none⟩,
   ⟨some 13,.ixa 1 (.tmp 11) (.tmp 12),none⟩,
   ⟨some 14,.ld false 1 (.tmp 13),none⟩,
   ⟨some 15,.ld false 1 (.tmp 3),none⟩,
   ⟨some 16,.conv .i64 (.tmp 15),none⟩,
   ⟨some 17,.arith .add .i64 (.cst (.d (.int .i64 1))) (.tmp 16),none⟩,
   ⟨some 18,.call 38 [(.tmp 10),(.tmp 14),(.tmp 17)],none⟩,
   ⟨some 9,.mov (.tmp 18),none⟩,
   ⟨some 19,.ext 0 (.tmp 9),none⟩,
   ⟨some 20,.ext 1 (.tmp 9),none⟩,
   ⟨some 7,.alloc 2 [(.d (.int .i64 0)),(.d (.int .i64 0)),(.d (.int .u8 0)),(.d (.int .u8 0)),(.d (.int .u8 0)),(.d (.int .u8 0)),(.d (.int .u8 0)),(.d (.int .u8 0)),(.d (.int .u8 0)),(.d (.int .u8 0))],none⟩,
   ⟨none,.st 10 (.tmp 7) (.tmp 19),none⟩,
   ⟨some 8,.mov (.tmp 20),none⟩] [(0,1),(0,2),(1,2),(0,3),(0,4),(0,5),(1,5),(2,5),(3,5),(4,5),(0,6),(1,6),(2,6),(3,6),(4,6),(0,7),(1,7),(2,7),(3,7),(4,7),(10,11),(0,12),(1,12),(2,12),(3,12),(4,12),(5,12),(6,12),(7,12),(8,12),(9,12),(10,12),(11,12),(11,13)])
  (.seq
  (.reg [] [⟨some 21,.ld true 10 (.tmp 7),none⟩,
   ⟨none,.st 10 (.tmp 6) (.tmp 21),none⟩])
  .ret)))⟩
def jr9:AFun:=⟨268,19,[.tmp 6],
 (.seq
 (.reg [0,1,2] [⟨some 3,.cbx 0 22 (.tmp 0),none⟩,
  ⟨some 4,.cbx 1 8 (.tmp 1),none⟩,
  ⟨some 5,.cbx 2 1 (.tmp 2),none⟩,
  ⟨some 6,.mov (.cst (.d (.bool false))),none⟩])
 (.seq
  (.seq
  (.reg [] [⟨some 40,.fad 21 (.tmp 3),none⟩,
   ⟨some 41,.ld false 1 (.tmp 40),none⟩,
   ⟨some 42,.len (.tmp 41),none⟩,
   ⟨some 43,.cmp .gtr (.tmp 42) (.cst (.d (.int .i64 12))),none⟩,
   ⟨some 44,.mov (.tmp 43),none⟩,
   ⟨some 45,.ld true 22 (.tmp 3),some (44,false)⟩,
   ⟨some 46,.call 20 [(.tmp 45)],some (44,false)⟩,
   ⟨some 47,.cmp .neq (.tmp 46) (.cst (.d (.int .i64 0))),some (44,false)⟩,
   ⟨some 48,.pick (.tmp 44) (.cst (.d (.bool true))) (.tmp 47),none⟩,
   ⟨some 49,.mov (.tmp 48),none⟩,
   ⟨some 50,.fad 20 (.tmp 3),some (49,false)⟩,
   ⟨some 51,.ld false 1 (.tmp 50),some (49,false)⟩,
   ⟨some 52,.pick (.tmp 49) (.cst (.d (.bool true))) (.tmp 51),none⟩,
   ⟨some 53,.mov (.tmp 52),none⟩,
   ⟨some 54,.ld true 8 (.tmp 4),some (53,false)⟩,
   ⟨some 55,.fad 4 (.tmp 3),some (53,false)⟩,
   ⟨some 56,.ld true 8 (.tmp 55),some (53,false)⟩,
   ⟨some 57,.aeq false [0,0,0,0,0,0,0,0] (.tmp 54) (.tmp 56),some (53,false)⟩,
   ⟨some 58,.pick (.tmp 53) (.cst (.d (.bool true))) (.tmp 57),none⟩,
   ⟨some 59,.mov (.tmp 58),none⟩,
   ⟨some 60,.fad 0 (.tmp 3),some (59,false)⟩,
   ⟨some 61,.ld false 1 (.tmp 60),some (59,false)⟩,
   ⟨some 62,.cmp .gtr (.tmp 61) (.cst (.d (.int .i64 1000000000))),some (59,false)⟩,
   ⟨some 63,.pick (.tmp 59) (.cst (.d (.bool true))) (.tmp 62),none⟩,
   ⟨some 64,.mov (.tmp 63),none⟩,
   ⟨some 65,.fad 0 (.tmp 3),some (64,false)⟩,
   ⟨some 66,.ld false 1 (.tmp 65),some (64,false)⟩,
   ⟨some 67,.cmp .lss (.tmp 66) (.cst (.d (.int .i64 (-1000000000)))),some (64,false)⟩,
   ⟨some 68,.pick (.tmp 64) (.cst (.d (.bool true))) (.tmp 67),none⟩])
  (.cond (.tmp 68)
   (.seq
   (.reg [] [⟨some 69,.call 15 [],none⟩,
    ⟨some 6,.mov (.tmp 69),none⟩])
   .ret)
   .skip))
  (.seq
  (.reg [3,4] [⟨some 70,.msl 3 3 1 8 (.int .i64 0) (.cst (.d (.int .i64 0))),none⟩,
   ⟨some 7,.alloc 4 [(.nils 1)],none⟩,
   ⟨none,.st 1 (.tmp 7) (.tmp 70),none⟩])
  (.seq
   (.seq
   (.reg [] [⟨some 8,.mov (.cst (.d (.int .i64 1))),none⟩])
   (.post [3,4,5,7] [0,1,2,3,4,5,6]
    (.block 0
    (.keep [3,4,5,7,8] [0,1,2,3,4]
     seg9))))
   (.asdat 7 (.asdat 7 (.seq
   (.reg [] [⟨some 85,.mkf (.func 69) [] [(.tmp 7),(.tmp 5)],none⟩,
    ⟨some 9,.mov (.tmp 85),none⟩])
   (.seq
    (.regd [7] [⟨some 87,.ld true 22 (.tmp 3),none⟩,
     ⟨some 88,.call 17 [(.tmp 87)],none⟩,
     ⟨some 89,.mov (.tmp 9),none⟩,
     ⟨some 90,.fad 4 (.tmp 3),none⟩,
     ⟨some 91,.ld true 8 (.tmp 90),none⟩,
     ⟨some 92,.callv (.tmp 89) [(.tmp 91),(.cst (.d (.int .i64 0)))],none⟩,
     ⟨some 93,.call 28 [(.tmp 88),(.tmp 92)],none⟩,
     ⟨some 86,.mov (.tmp 93),none⟩,
     ⟨some 94,.ext 0 (.tmp 86),none⟩,
     ⟨some 95,.ext 1 (.tmp 86),none⟩,
     ⟨some 10,.alloc 7 [(.d (.int .i64 0)),(.d (.int .i64 0)),(.d (.int .i64 0)),(.d (.int .i64 0)),(.d (.int .u8 0)),(.d (.int .u8 0)),(.d (.int .u8 0)),(.d (.int .u8 0)),(.d (.int .u8 0)),(.d (.int .u8 0)),(.d (.int .u8 0)),(.d (.int .u8 0)),(.d (.int .u8 0)),(.d (.int .u8 0)),(.d (.int .u8 0)),(.d (.int .u8 0)),(.d (.int .u8 0)),(.d (.int .u8 0)),(.d (.int .u8 0)),(.d (.int .u8 0)),(.d (.bool false)),(.nils 1)],none⟩,
     ⟨none,.st 22 (.tmp 10) (.tmp 94),none⟩,
     ⟨some 11,.mov (.tmp 95),none⟩] [(0,2),(1,2),(0,3),(1,3),(2,3),(0,4),(1,4),(2,4),(8,9),(0,10),(1,10),(2,10),(3,10),(4,10),(5,10),(6,10),(7,10),(8,10),(9,10),(9,11)])
    (.seq
    (.regd [8] [⟨some 97,.ld true 22 (.tmp 3),none⟩,
     ⟨some 98,.call 17 [(.tmp 97)],none⟩,
     ⟨some 99,.mov (.tmp 9),none⟩,
     ⟨some 100,.ld true 8 (.tmp 4),none⟩,
     ⟨some 101,.callv (.tmp 99) [(.tmp 100),(.cst (.d (.int .i64 0)))],none⟩,
     ⟨some 102,.call 28 [(.tmp 98),(.tmp 101)],none⟩,
     ⟨some 96,.mov (.tmp 102),none⟩,
     ⟨some 103,.ext 0 (.tmp 96),none⟩,
     ⟨some 104,.ext 1 (.tmp 96),none⟩,
     ⟨some 12,.alloc 8 [(.d (.int .i64 0)),(.d (.int .i64 0)),(.d (.int .i64 0)),(.d (.int .i64 0)),(.d (.int .u8 0)),(.d (.int .u8 0)),(.d (.int .u8 0)),(.d (.int .u8 0)),(.d (.int .u8 0)),(.d (.int .u8 0)),(.d (.int .u8 0)),(.d (.int .u8 0)),(.d (.int .u8 0)),(.d (.int .u8 0)),(.d (.int .u8 0)),(.d (.int .u8 0)),(.d (.int .u8 0)),(.d (.int .u8 0)),(.d (.int .u8 0)),(.d (.int .u8 0)),(.d (.bool false)),(.nils 1)],none⟩,
     ⟨none,.st 22 (.tmp 12) (.tmp 103),none⟩,
     ⟨some 13,.mov (.tmp 104),none⟩] [(0,2),(1,2),(0,3),(1,3),(2,3),(7,8),(0,9),(1,9),(2,9),(3,9),(4,9),(5,9),(6,9),(7,9),(8,9),(8,10)])
    (.seq
     (.reg [9] [⟨some 106,.ld true 22 (.tmp 10),none⟩,
      ⟨some 107,.ld true 8 (.tmp 4),none⟩,
      ⟨some 108,.call 36 [(.tmp 106),(.tmp 107)],none⟩,
      ⟨some 105,.mov (.tmp 108),none⟩,
      ⟨some 109,.ext 0 (.tmp 105),none⟩,
      ⟨some 110,.ext 1 (.tmp 105),none⟩,
      ⟨some 14,.alloc 9 [(.d (.int .i64 0)),(.d (.int .i64 0)),(.d (.int .i64 0)),(.d (.int .i64 0)),(.d (.int .u8 0)),(.d (.int .u8 0)),(.d (.int .u8 0)),(.d (.int .u8 0)),(.d (.int .u8 0)),(.d (.int .u8 0)),(.d (.int .u8 0)),(.d (.int .u8 0)),(.d (.int .u8 0)),(.d (.int .u8 0)),(.d (.int .u8 0)),(.d (.int .u8 0)),(.d (.int .u8 0)),(.d (.int .u8 0)),(.d (.int .u8 0)),(.d (.int .u8 0)),(.d (.bool false)),(.nils 1)],none⟩,
      ⟨none,.st 22 (.tmp 14) (.tmp 109),none⟩,
      ⟨some 15,.mov (.tmp 110),none⟩])
     (.seq
     (.regd [10] [⟨some 112,.ld true 22 (.tmp 14),none⟩,
      ⟨some 113,.mov (.tmp 9),none⟩,
      ⟨some 114,.fad 4 (.tmp 3),none⟩,
      ⟨some 115,.ld true 8 (.tmp 114),none⟩,
      ⟨some 116,.callv (.tmp 113) [(.tmp 115),(.cst (.d (.int .i64 1)))],none⟩,
      ⟨some 117,.call 28 [(.tmp 112),(.tmp 116)],none⟩,
      ⟨some 111,.mov (.tmp 117),none⟩,
      ⟨some 118,.ext 0 (.tmp 111),none⟩,
      ⟨some 119,.ext 1 (.tmp 111),none⟩,
      ⟨some 16,.alloc 10 [(.d (.int .i64 0)),(.d (.int .i64 0)),(.d (.int .i64 0)),(.d (.int .i64 0)),(.d (.int .u8 0)),(.d (.int .u8 0)),(.d (.int .u8 0)),(.d (.int .u8 0)),(.d (.int .u8 0)),(.d (.int .u8 0)),(.d (.int .u8 0)),(.d (.int .u8 0)),(.d (.int .u8 0)),(.d (.int .u8 0)),(.d (.int .u8 0)),(.d (.int .u8 0)),(.d (.int .u8 0)),(.d (.int .u8 0)),(.d (.int .u8 0)),(.d (.int .u8 0)),(.d (.bool false)),(.nils 1)],none⟩,
      ⟨none,.st 22 (.tmp 16) (.tmp 118),none⟩,
      ⟨some 17,.mov (.tmp 119),none⟩] [(0,1),(0,2),(1,2),(0,3),(1,3),(0,4),(7,8),(0,9),(1,9),(2,9),(3,9),(4,9),(5,9),(6,9),(7,9),(8,9),(8,10)])
     (.seq
      (.regd [11] [⟨some 121,.ld true 22 (.tmp 16),none⟩,
       ⟨some 122,.mov (.tmp 9),none⟩,
       ⟨some 123,.ld true 8 (.tmp 4),none⟩,
       ⟨some 124,.callv (.tmp 122) [(.tmp 123),(.cst (.d (.int .i64 2)))],none⟩,
       ⟨some 125,.call 28 [(.tmp 121),(.tmp 124)],none⟩,
       ⟨some 120,.mov (.tmp 125),none⟩,
       ⟨some 126,.ext 0 (.tmp 120),none⟩,
       ⟨some 127,.ext 1 (.tmp 120),none⟩,
       ⟨some 18,.alloc 11 [(.d (.int .i64 0)),(.d (.int .i64 0)),(.d (.int .i64 0)),(.d (.int .i64 0)),(.d (.int .u8 0)),(.d (.int .u8 0)),(.d (.int .u8 0)),(.d (.int .u8 0)),(.d (.int .u8 0)),(.d (.int .u8 0)),(.d (.int .u8 0)),(.d (.int .u8 0)),(.d (.int .u8 0)),(.d (.int .u8 0)),(.d (.int .u8 0)),(.d (.int .u8 0)),(.d (.int .u8 0)),(.d (.int .u8 0)),(.d (.int .u8 0)),(.d (.int .u8 0)),(.d (.bool false)),(.nils 1)],none⟩,
       ⟨none,.st 22 (.tmp 18) (.tmp 126),none⟩,
       ⟨some 19,.mov (.tmp 127),none⟩] [(0,1),(0,2),(1,2),(0,3),(6,7),(0,8),(1,8),(2,8),(3,8),(4,8),(5,8),(6,8),(7,8),(7,9)])
      (.seq
      (.reg [12] [⟨some 129,.ld true 22 (.tmp 18),none⟩,
       ⟨some 130,.build [(.d (.int .u8 0)),(.d (.int .u8 0)),(.d (.int .u8 0)),(.d (.int .u8 0)),(.d (.int .u8 0)),(.d (.int .u8 0)),(.d (.int .u8 0)),(.d (.int .u8 0))] [],none⟩,
       ⟨some 131,.call 36 [(.tmp 129),(.tmp 130)],none⟩,
       ⟨some 128,.mov (.tmp 131),none⟩,
       ⟨some 132,.ext 0 (.tmp 128),none⟩,
       ⟨some 133,.ext 1 (.tmp 128),none⟩,
       ⟨some 20,.alloc 12 [(.d (.int .i64 0)),(.d (.int .i64 0)),(.d (.int .i64 0)),(.d (.int .i64 0)),(.d (.int .u8 0)),(.d (.int .u8 0)),(.d (.int .u8 0)),(.d (.int .u8 0)),(.d (.int .u8 0)),(.d (.int .u8 0)),(.d (.int .u8 0)),(.d (.int .u8 0)),(.d (.int .u8 0)),(.d (.int .u8 0)),(.d (.int .u8 0)),(.d (.int .u8 0)),(.d (.int .u8 0)),(.d (.int .u8 0)),(.d (.int .u8 0)),(.d (.int .u8 0)),(.d (.bool false)),(.nils 1)],none⟩,
       ⟨none,.st 22 (.tmp 20) (.tmp 132),none⟩,
       ⟨some 21,.mov (.tmp 133),none⟩])
      (.seq
       (.reg [13] [⟨some 135,.ld true 22 (.tmp 18),none⟩,
        ⟨some 136,.call 37 [(.tmp 135)],none⟩,
        ⟨some 134,.mov (.tmp 136),none⟩,
        ⟨some 137,.ext 0 (.tmp 134),none⟩,
        ⟨some 138,.ext 1 (.tmp 134),none⟩,
        ⟨some 22,.alloc 13 [(.d (.int .i64 0)),(.d (.int .i64 0)),(.d (.int .i64 0)),(.d (.int .i64 0)),(.d (.int .u8 0)),(.d (.int .u8 0)),(.d (.int .u8 0)),(.d (.int .u8 0)),(.d (.int .u8 0)),(.d (.int .u8 0)),(.d (.int .u8 0)),(.d (.int .u8 0)),(.d (.int .u8 0)),(.d (.int .u8 0)),(.d (.int .u8 0)),(.d (.int .u8 0)),(.d (.int .u8 0)),(.d (.int .u8 0)),(.d (.int .u8 0)),(.d (.int .u8 0)),(.d (.bool false)),(.nils 1)],none⟩,
        ⟨none,.st 22 (.tmp 22) (.tmp 137),none⟩,
        ⟨some 23,.mov (.tmp 138),none⟩])
       (.seq
       (.regd [14] [⟨some 140,.ld true 22 (.tmp 22),none⟩,
        ⟨some 141,.mov (.tmp 9),none⟩,
        ⟨some 142,.fad 4 (.tmp 3),none⟩,
        ⟨some 143,.ld true 8 (.tmp 142),none⟩,
        ⟨some 144,.callv (.tmp 141) [(.tmp 143),(.cst (.d (.int .i64 3)))],none⟩,
        ⟨some 145,.call 28 [(.tmp 140),(.tmp 144)],none⟩,
        ⟨some 139,.mov (.tmp 145),none⟩,
        ⟨some 146,.ext 0 (.tmp 139),none⟩,
        ⟨some 147,.ext 1 (.tmp 139),none⟩,
        ⟨some 24,.alloc 14 [(.d (.int .i64 0)),(.d (.int .i64 0)),(.d (.int .i64 0)),(.d (.int .i64 0)),(.d (.int .u8 0)),(.d (.int .u8 0)),(.d (.int .u8 0)),(.d (.int .u8 0)),(.d (.int .u8 0)),(.d (.int .u8 0)),(.d (.int .u8 0)),(.d (.int .u8 0)),(.d (.int .u8 0)),(.d (.int .u8 0)),(.d (.int .u8 0)),(.d (.int .u8 0)),(.d (.int .u8 0)),(.d (.int .u8 0)),(.d (.int .u8 0)),(.d (.int .u8 0)),(.d (.bool false)),(.nils 1)],none⟩,
        ⟨none,.st 22 (.tmp 24) (.tmp 146),none⟩,
        ⟨some 25,.mov (.tmp 147),none⟩] [(0,1),(0,2),(1,2),(0,3),(1,3),(0,4),(7,8),(0,9),(1,9),(2,9),(3,9),(4,9),(5,9),(6,9),(7,9),(8,9),(8,10)])
       (.seq
        (.regd [15] [⟨some 149,.ld true 22 (.tmp 22),none⟩,
         ⟨some 150,.mov (.tmp 9),none⟩,
         ⟨some 151,.ld true 8 (.tmp 4),none⟩,
         ⟨some 152,.callv (.tmp 150) [(.tmp 151),(.cst (.d (.int .i64 3)))],none⟩,
         ⟨some 153,.call 28 [(.tmp 149),(.tmp 152)],none⟩,
         ⟨some 148,.mov (.tmp 153),none⟩,
         ⟨some 154,.ext 0 (.tmp 148),none⟩,
         ⟨some 155,.ext 1 (.tmp 148),none⟩,
         ⟨some 26,.alloc 15 [(.d (.int .i64 0)),(.d (.int .i64 0)),(.d (.int .i64 0)),(.d (.int .i64 0)),(.d (.int .u8 0)),(.d (.int .u8 0)),(.d (.int .u8 0)),(.d (.int .u8 0)),(.d (.int .u8 0)),(.d (.int .u8 0)),(.d (.int .u8 0)),(.d (.int .u8 0)),(.d (.int .u8 0)),(.d (.int .u8 0)),(.d (.int .u8 0)),(.d (.int .u8 0)),(.d (.int .u8 0)),(.d (.int .u8 0)),(.d (.int .u8 0)),(.d (.int .u8 0)),(.d (.bool false)),(.nils 1)],none⟩,
         ⟨none,.st 22 (.tmp 26) (.tmp 154),none⟩,
         ⟨some 27,.mov (.tmp 155),none⟩] [(0,1),(0,2),(1,2),(0,3),(6,7),(0,8),(1,8),(2,8),(3,8),(4,8),(5,8),(6,8),(7,8),(7,9)])
        (.seq
        (.regd [16] [⟨some 157,.ld true 22 (.tmp 26),none⟩,
         ⟨some 158,.mov (.tmp 9),none⟩,
         ⟨some 159,.ld true 8 (.tmp 4),none⟩,
         ⟨some 160,.callv (.tmp 158) [(.tmp 159),(.cst (.d (.int .i64 0)))],none⟩,
         ⟨some 161,.call 28 [(.tmp 157),(.tmp 160)],none⟩,
         ⟨some 156,.mov (.tmp 161),none⟩,
         ⟨some 162,.ext 0 (.tmp 156),none⟩,
         ⟨some 163,.ext 1 (.tmp 156),none⟩,
         ⟨some 28,.alloc 16 [(.d (.int .i64 0)),(.d (.int .i64 0)),(.d (.int .i64 0)),(.d (.int .i64 0)),(.d (.int .u8 0)),(.d (.int .u8 0)),(.d (.int .u8 0)),(.d (.int .u8 0)),(.d (.int .u8 0)),(.d (.int .u8 0)),(.d (.int .u8 0)),(.d (.int .u8 0)),(.d (.int .u8 0)),(.d (.int .u8 0)),(.d (.int .u8 0)),(.d (.int .u8 0)),(.d (.int .u8 0)),(.d (.int .u8 0)),(.d (.int .u8 0)),(.d (.int .u8 0)),(.d (.bool false)),(.nils 1)],none⟩,
         ⟨none,.st 22 (.tmp 28) (.tmp 162),none⟩,
         ⟨some 29,.mov (.tmp 163),none⟩] [(0,1),(0,2),(1,2),(0,3),(6,7),(0,8),(1,8),(2,8),(3,8),(4,8),(5,8),(6,8),(7,8),(7,9)])
        (.seq
         (.reg [17] [⟨some 165,.ld true 22 (.tmp 22),none⟩,
          ⟨some 166,.call 37 [(.tmp 165)],none⟩,
          ⟨some 164,.mov (.tmp 166),none⟩,
          ⟨some 167,.ext 0 (.tmp 164),none⟩,
          ⟨some 168,.ext 1 (.tmp 164),none⟩,
          ⟨some 30,.alloc 17 [(.d (.int .i64 0)),(.d (.int .i64 0)),(.d (.int .i64 0)),(.d (.int .i64 0)),(.d (.int .u8 0)),(.d (.int .u8 0)),(.d (.int .u8 0)),(.d (.int .u8 0)),(.d (.int .u8 0)),(.d (.int .u8 0)),(.d (.int .u8 0)),(.d (.int .u8 0)),(.d (.int .u8 0)),(.d (.int .u8 0)),(.d (.int .u8 0)),(.d (.int .u8 0)),(.d (.int .u8 0)),(.d (.int .u8 0)),(.d (.int .u8 0)),(.d (.int .u8 0)),(.d (.bool false)),(.nils 1)],none⟩,
          ⟨none,.st 22 (.tmp 30) (.tmp 167),none⟩,
          ⟨some 31,.mov (.tmp 168),none⟩])
         (.seq
         (.seq
          (.reg [] [⟨some 169,.mov (.tmp 11),none⟩,
           ⟨some 170,.mov (.tmp 15),none⟩,
           ⟨some 171,.arith .add .i64 (.tmp 169) (.tmp 170),none⟩,
           ⟨some 172,.mov (.tmp 17),none⟩,
           ⟨some 173,.arith .add .i64 (.tmp 171) (.tmp 172),none⟩,
           ⟨some 174,.mov (.tmp 19),none⟩,
           ⟨some 175,.arith .add .i64 (.tmp 173) (.tmp 174),none⟩,
           ⟨some 176,.mov (.tmp 23),none⟩,
           ⟨some 177,.arith .add .i64 (.tmp 175) (.tmp 176),none⟩,
           ⟨some 178,.mov (.tmp 27),none⟩,
           ⟨some 179,.arith .add .i64 (.tmp 177) (.tmp 178),none⟩,
           ⟨some 180,.cmp .neq (.tmp 179) (.cst (.d (.int .i64 0))),none⟩,
           ⟨some 181,.mov (.tmp 180),none⟩,
           ⟨some 182,.mov (.tmp 13),some (181,false)⟩,
           ⟨some 183,.cmp .neq (.tmp 182) (.cst (.d (.int .i64 27))),some (181,false)⟩,
           ⟨some 184,.pick (.tmp 181) (.cst (.d (.bool true))) (.tmp 183),none⟩,
           ⟨some 185,.mov (.tmp 184),none⟩,
           ⟨some 186,.mov (.tmp 21),some (185,false)⟩,
           ⟨some 187,.cmp .neq (.tmp 186) (.cst (.d (.int .i64 22))),some (185,false)⟩,
           ⟨some 188,.pick (.tmp 185) (.cst (.d (.bool true))) (.tmp 187),none⟩,
           ⟨some 189,.mov (.tmp 188),none⟩,
           ⟨some 190,.mov (.tmp 25),some (189,false)⟩,
           ⟨some 191,.cmp .neq (.tmp 190) (.cst (.d (.int .i64 27))),some (189,false)⟩,
           ⟨some 192,.pick (.tmp 189) (.cst (.d (.bool true))) (.tmp 191),none⟩,
           ⟨some 193,.mov (.tmp 192),none⟩,
           ⟨some 194,.mov (.tmp 29),some (193,false)⟩,
           ⟨some 195,.cmp .neq (.tmp 194) (.cst (.d (.int .i64 9))),some (193,false)⟩,
           ⟨some 196,.pick (.tmp 193) (.cst (.d (.bool true))) (.tmp 195),none⟩,
           ⟨some 197,.mov (.tmp 196),none⟩,
           ⟨some 198,.mov (.tmp 31),some (197,false)⟩,
           ⟨some 199,.cmp .neq (.tmp 198) (.cst (.d (.int .i64 22))),some (197,false)⟩,
           ⟨some 200,.pick (.tmp 197) (.cst (.d (.bool true))) (.tmp 199),none⟩,
           ⟨some 201,.mov (.tmp 200),none⟩,
           ⟨some 202,.fad 4 (.tmp 26),some (201,false)⟩,
           ⟨some 203,.ld true 8 (.tmp 202),some (201,false)⟩,
           ⟨some 204,.ld true 8 (.tmp 4),some (201,false)⟩,
           ⟨some 205,.aeq true [0,0,0,0,0,0,0,0] (.tmp 203) (.tmp 204),some (201,false)⟩,
           ⟨some 206,.pick (.tmp 201) (.cst (.d (.bool true))) (.tmp 205),none⟩,
           ⟨some 207,.mov (.tmp 206),none⟩,
           ⟨some 208,.fad 20 (.tmp 26),some (207,false)⟩,
           ⟨some 209,.ld false 1 (.tmp 208),some (207,false)⟩,
           ⟨some 210,.pick (.tmp 207) (.cst (.d (.bool true))) (.tmp 209),none⟩,
           ⟨some 211,.mov (.tmp 210),none⟩,
           ⟨some 212,.fad 21 (.tmp 26),some (211,false)⟩,
           ⟨some 213,.ld false 1 (.tmp 212),some (211,false)⟩,
           ⟨some 214,.len (.tmp 213),some (211,false)⟩,
           ⟨some 215,.fad 21 (.tmp 3),some (211,false)⟩,
           ⟨some 216,.ld false 1 (.tmp 215),some (211,false)⟩,
           ⟨some 217,.len (.tmp 216),some (211,false)⟩,
           ⟨some 218,.arith .add .i64 (.tmp 217) (.cst (.d (.int .i64 4))),some (211,false)⟩,
           ⟨some 219,.cmp .neq (.tmp 214) (.tmp 218),some (211,false)⟩,
           ⟨some 220,.pick (.tmp 211) (.cst (.d (.bool true))) (.tmp 219),none⟩])
          (.cond (.tmp 220)
          (.seq
           (.reg [] [⟨some 6,.mov (.cst (.d (.bool false))),none⟩])
           .ret)
          .skip))
         (.seq
          (.reg [] [⟨some 222,.ld true 22 (.tmp 26),none⟩,
           ⟨some 223,.call 18 [(.tmp 222)],none⟩,
           ⟨some 221,.mov (.tmp 223),none⟩,
           ⟨some 224,.ext 0 (.tmp 221),none⟩,
           ⟨some 225,.ext 1 (.tmp 221),none⟩,
           ⟨some 32,.mov (.tmp 224),none⟩,
           ⟨some 33,.mov (.tmp 225),none⟩])
          (.seq
          (.reg [18] [⟨some 227,.ld true 22 (.tmp 26),none⟩,
           ⟨some 228,.ld false 1 (.tmp 5),none⟩,
           ⟨some 229,.conv .i64 (.tmp 228),none⟩,
           ⟨some 230,.call 16 [(.tmp 227),(.tmp 229)],none⟩,
           ⟨some 226,.mov (.tmp 230),none⟩,
           ⟨some 231,.ext 0 (.tmp 226),none⟩,
           ⟨some 232,.ext 1 (.tmp 226),none⟩,
           ⟨some 34,.alloc 18 [(.d (.int .i64 0)),(.d (.int .i64 0)),(.d (.int .i64 0)),(.d (.int .i64 0)),(.d (.int .u8 0)),(.d (.int .u8 0)),(.d (.int .u8 0)),(.d (.int .u8 0)),(.d (.int .u8 0)),(.d (.int .u8 0)),(.d (.int .u8 0)),(.d (.int .u8 0)),(.d (.int .u8 0)),(.d (.int .u8 0)),(.d (.int .u8 0)),(.d (.int .u8 0)),(.d (.int .u8 0)),(.d (.int .u8 0)),(.d (.int .u8 0)),(.d (.int .u8 0)),(.d (.bool false)),(.nils 1)],none⟩,
           ⟨none,.st 22 (.tmp 34) (.tmp 231),none⟩,
           ⟨some 35,.mov (.tmp 232),none⟩])
          (.seq
           (.reg [] [⟨some 234,.ld true 22 (.tmp 34),none⟩,
            ⟨some 235,.call 18 [(.tmp 234)],none⟩,
            ⟨some 233,.mov (.tmp 235),none⟩,
            ⟨some 236,.ext 0 (.tmp 233),none⟩,
            ⟨some 237,.ext 1 (.tmp 233),none⟩,
            ⟨some 36,.mov (.tmp 236),none⟩,
            ⟨some 37,.mov (.tmp 237),none⟩])
           (.seq
           (.reg [] [⟨some 239,.ld true 22 (.tmp 34),none⟩,
            ⟨some 240,.call 19 [(.tmp 239)],none⟩,
            ⟨some 238,.mov (.tmp 240),none⟩,
            ⟨some 241,.ext 0 (.tmp 238),none⟩,
            ⟨some 242,.ext 1 (.tmp 238),none⟩,
            ⟨some 38,.mov (.tmp 241),none⟩,
            ⟨some 39,.mov (.tmp 242),none⟩])
           (.seq
            (.reg [] [⟨some 243,.mov (.tmp 33),none⟩,
             ⟨some 244,.mov (.tmp 35),none⟩,
             ⟨some 245,.arith .add .i64 (.tmp 243) (.tmp 244),none⟩,
             ⟨some 246,.mov (.tmp 37),none⟩,
             ⟨some 247,.arith .add .i64 (.tmp 245) (.tmp 246),none⟩,
             ⟨some 248,.mov (.tmp 39),none⟩,
             ⟨some 249,.arith .add .i64 (.tmp 247) (.tmp 248),none⟩,
             ⟨some 250,.cmp .eql (.tmp 249) (.cst (.d (.int .i64 0))),none⟩,
             ⟨some 251,.mov (.tmp 250),none⟩,
             ⟨some 252,.mov (.tmp 36),some (251,true)⟩,
             ⟨some 253,.mov (.tmp 32),some (251,true)⟩,
             ⟨some 254,.ld false 1 (.tmp 5),some (251,true)⟩,
             ⟨some 255,.conv .i64 (.tmp 254),some (251,true)⟩,
             ⟨some 256,.arith .sub .i64 (.tmp 253) (.tmp 255),some (251,true)⟩,
             ⟨some 257,.cmp .eql (.tmp 252) (.tmp 256),some (251,true)⟩,
             ⟨some 258,.pick (.tmp 251) (.tmp 257) (.cst (.d (.bool false))),none⟩,
             ⟨some 259,.mov (.tmp 258),none⟩,
             ⟨some 260,.mov (.tmp 38),some (259,true)⟩,
             ⟨some 261,.mov (.tmp 36),some (259,true)⟩,
             ⟨some 262,.cmp .lss (.tmp 261) (.cst (.d (.int .i64 0))),some (259,true)⟩,
             ⟨some 263,.beq false (.tmp 260) (.tmp 262),some (259,true)⟩,
             ⟨some 264,.pick (.tmp 259) (.tmp 263) (.cst (.d (.bool false))),none⟩,
             ⟨some 265,.mov (.tmp 264),none⟩,
             ⟨some 266,.call 15 [],some (265,true)⟩,
             ⟨some 267,.pick (.tmp 265) (.tmp 266) (.cst (.d (.bool false))),none⟩,
             ⟨some 6,.mov (.tmp 267),none⟩])
            .ret))))))))))))))))))))))))⟩
def cn:List Int→Int→Nat
 | [],_=>0
 | x::r,n=>(if x < n then 1 else 0)+cn r n
theorem cn_le:∀ (l:List Int) (n:Int),cn l n≤l.length
 | [],_=>Nat.le_refl _
 | x::r,n=>by
  have:=cn_le r n
  rw [cn,List.length_cons]
  split <;> omega
theorem cn_out:∀ {l:List Int} {n:Int},n∉l→cn l (n+1)=cn l n
 | [],_,_=>rfl
 | x::r,n,h=>by
  have h1:n≠x:=fun e=>h (by rw [e]; exact List.mem_cons_self)
  have h2:=cn_out (l:=r) (n:=n) fun e=>h (List.mem_cons_of_mem _ e)
  rw [cn,cn,h2]
  by_cases hx:x < n
  ·rw [if_pos hx,if_pos (by omega)]
  ·rw [if_neg hx,if_neg (by omega)]
theorem cn_in:∀ {l:List Int} {n:Int},Asc l→n∈l→cn l (n+1)=cn l n+1
 | [],_,_,h=>by cases h
 | x::r,n,ha,h=>by
  obtain ⟨a1,a2⟩:=List.pairwise_cons.1 ha
  rw [cn,cn]
  rcases List.mem_cons.1 h with e | e
  ·subst e
   have hn:n∉r:=fun e=>by have:=a1 n e; omega
   rw [cn_out hn,if_pos (by omega),if_neg (by omega)]; omega
  ·have:=a1 n e
   rw [cn_in a2 e,if_pos (by omega),if_pos (by omega)]; omega
theorem o4_bytes (n m:Int):∀ b∈o4 n++o4 m,0≤b∧b≤255:=o4_b
theorem seal_key {k p:Ky} (hk:k.ok) (hp:p.ok) {s:List Int} (hs:∀ b∈s,0≤b∧b≤255) (h:keq (sealK k s) (sealK p s)=true):k=p:=by
 unfold keq at h
 simp only [Bool.and_eq_true,beq_iff_eq] at h
 obtain ⟨e0,e1,e2,e3,e4,e5,e6,e7,_⟩:=h
 obtain ⟨k0,k1,k2,k3,k4,k5,k6,k7⟩:=hk
 obtain ⟨p0,p1,p2,p3,p4,p5,p6,p7⟩:=hp
 have st:∀ (j x y:Int),(0≤j∧j≤7)→(0≤x∧x≤255)→(0≤y∧y≤255)→sk j x s=sk j y s→x=y:=fun j x y hj hx hy e=>by
  rw [sk_b hj hx hs,sk_b hj hy hs] at e
  exact sealJ_x s hj hx hy e
 have f0:=st 0 k.a p.a (by decide) k0 p0 e0
 have f1:=st 1 k.b p.b (by decide) k1 p1 e1
 have f2:=st 2 k.c p.c (by decide) k2 p2 e2
 have f3:=st 3 k.d p.d (by decide) k3 p3 e3
 have f4:=st 4 k.e p.e (by decide) k4 p4 e4
 have f5:=st 5 k.f p.f (by decide) k5 p5 e5
 have f6:=st 6 k.g p.g (by decide) k6 p6 e6
 have f7:=st 7 k.h p.h (by decide) k7 p7 e7
 cases k; cases p
 simp only [Ky.mk.injEq]
 exact ⟨f0,f1,f2,f3,f4,f5,f6,f7⟩
theorem keq_self (k:Ky):keq k k=true:=by unfold keq; simp
theorem keq_eq {k p:Ky} (h:k=p):keq k p=true:=by rw [h]; exact keq_self p
theorem seal_ne {k p:Ky} (hk:k.ok) (hp:p.ok) {n m:Int} (h:keq k p=false):keq (sealK k (o4 n++o4 m)) (sealK p (o4 n++o4 m))=false:=by
 rw [Bool.eq_false_iff]
 intro e
 rw [keq_eq (seal_key hk hp (o4_bytes n m) e)] at h
 cases h
section
variable {a : Ac}
theorem cr_good {B D : Int} {k p : Ky} {c : Bool} {U : List Int} {n m : Int} {q : Ky} (hk : k.ok) (hp : p.ok) (hA : ckA (⟨B, D, a.s, a.e, k, p, c, U⟩ : Ac) c = 0) (ht : ckT n m = 0) (hv : va (⟨B, D, a.s, a.e, k, p, c, U⟩ : Ac) c n m q = true) (hn : n ∉ U) (hl : U.length ≤ 250) (hb : B ≤ 900000000000) :
  ∃ B2 D2:Int,CallDet Tryz.prog 28 [.d (.agg [.int .i64 (B),.int .i64 (D),.int .i64 a.s,.int .i64 a.e,.int .u8 k.a,.int .u8 k.b,.int .u8 k.c,.int .u8 k.d,.int .u8 k.e,.int .u8 k.f,.int .u8 k.g,.int .u8 k.h,.int .u8 p.a,.int .u8 p.b,.int .u8 p.c,.int .u8 p.d,.int .u8 p.e,.int .u8 p.f,.int .u8 p.g,.int .u8 p.h,.bool c,.slice 1 (ints (U))]),.d (.agg [.int .i64 n,.int .i64 m,.int .u8 q.a,.int .u8 q.b,.int .u8 q.c,.int .u8 q.d,.int .u8 q.e,.int .u8 q.f,.int .u8 q.g,.int .u8 q.h])] [.agg [.int .i64 (B2),.int .i64 (D2),.int .i64 a.s,.int .i64 a.e,.int .u8 k.a,.int .u8 k.b,.int .u8 k.c,.int .u8 k.d,.int .u8 k.e,.int .u8 k.f,.int .u8 k.g,.int .u8 k.h,.int .u8 p.a,.int .u8 p.b,.int .u8 p.c,.int .u8 p.d,.int .u8 p.e,.int .u8 p.f,.int .u8 p.g,.int .u8 p.h,.bool c,.slice 1 (ints (insI n U))],.int .i64 0]∧ckA (⟨B2,D2,a.s,a.e,k,p,c,insI n U⟩:Ac) c=0∧B≤B2∧B2≤B+m:=by
 obtain ⟨ht1,ht2⟩:=ckT_b ht
 obtain ⟨_,hp0,hp1,hp2,_⟩:=pay_b hA ht2.1 ht2.2
 have hlen:(ints U).length=U.length:=List.length_map _
 have hE:crE (⟨B,D,a.s,a.e,k,p,c,U⟩:Ac) c n m q=0:=by
  unfold crE
  rw [hv]
  show firstOf [bif U.contains n then 9 else 0,bif ((((ints U).length:Nat):Int)==256) then 5 else 0,bif decide (1000000000000 - (m - pay (⟨B,D,a.s,a.e,k,p,c,U⟩:Ac) m) < B) then 4 else 0]=0
  rw [show U.contains n=false by rw [Bool.eq_false_iff]; intro e; exact hn (List.contains_iff_mem.1 e),hlen,beq_eq_false_iff_ne.2 (show ((U.length:Nat):Int)≠256 by omega),decide_eq_false (by omega)]; rfl
 have x:=c28 (⟨B,D,a.s,a.e,k,p,c,U⟩:Ac) c n m q (by show U.length≤_; omega) hk hp
 rw [hA,ht,hE] at x
 exact ⟨_,_,x,crO_ok (a:=(⟨B,D,a.s,a.e,k,p,c,U⟩:Ac)) hA ht hE,by show B≤B+(m - pay _ m); omega,by show B+(m - pay _ m)≤B+m; omega⟩
theorem cr_bad {B D:Int} {k p:Ky} {c:Bool} {U:List Int} {n m:Int} {q:Ky} (hk:k.ok) (hp:p.ok) (hA:ckA (⟨B,D,a.s,a.e,k,p,c,U⟩:Ac) c=0) (ht:ckT n m=0) (hl:U.length≤300) (hv:va (⟨B,D,a.s,a.e,k,p,c,U⟩:Ac) c n m q=false):CallDet Tryz.prog 28 [.d (.agg [.int .i64 (B),.int .i64 (D),.int .i64 a.s,.int .i64 a.e,.int .u8 k.a,.int .u8 k.b,.int .u8 k.c,.int .u8 k.d,.int .u8 k.e,.int .u8 k.f,.int .u8 k.g,.int .u8 k.h,.int .u8 p.a,.int .u8 p.b,.int .u8 p.c,.int .u8 p.d,.int .u8 p.e,.int .u8 p.f,.int .u8 p.g,.int .u8 p.h,.bool c,.slice 1 (ints (U))]),.d (.agg [.int .i64 n,.int .i64 m,.int .u8 q.a,.int .u8 q.b,.int .u8 q.c,.int .u8 q.d,.int .u8 q.e,.int .u8 q.f,.int .u8 q.g,.int .u8 q.h])] [.agg [.int .i64 0,.int .i64 0,.int .i64 0,.int .i64 0,.int .u8 0,.int .u8 0,.int .u8 0,.int .u8 0,.int .u8 0,.int .u8 0,.int .u8 0,.int .u8 0,.int .u8 0,.int .u8 0,.int .u8 0,.int .u8 0,.int .u8 0,.int .u8 0,.int .u8 0,.int .u8 0,.bool false,.slice 1 []],.int .i64 27]:=by
 have x:=c28 (⟨B,D,a.s,a.e,k,p,c,U⟩:Ac) c n m q (by show U.length≤_; omega) hk hp
 rw [hA,ht,show crE (⟨B,D,a.s,a.e,k,p,c,U⟩:Ac) c n m q=27 by unfold crE; rw [hv]; rfl] at x
 exact x
theorem cr_twice {B D:Int} {k p:Ky} {c:Bool} {U:List Int} {n m:Int} {q:Ky} (hk:k.ok) (hp:p.ok) (hA:ckA (⟨B,D,a.s,a.e,k,p,c,U⟩:Ac) c=0) (ht:ckT n m=0) (hl:U.length≤300) (hv:va (⟨B,D,a.s,a.e,k,p,c,U⟩:Ac) c n m q=true) (hn:n∈U):CallDet Tryz.prog 28 [.d (.agg [.int .i64 (B),.int .i64 (D),.int .i64 a.s,.int .i64 a.e,.int .u8 k.a,.int .u8 k.b,.int .u8 k.c,.int .u8 k.d,.int .u8 k.e,.int .u8 k.f,.int .u8 k.g,.int .u8 k.h,.int .u8 p.a,.int .u8 p.b,.int .u8 p.c,.int .u8 p.d,.int .u8 p.e,.int .u8 p.f,.int .u8 p.g,.int .u8 p.h,.bool c,.slice 1 (ints (U))]),.d (.agg [.int .i64 n,.int .i64 m,.int .u8 q.a,.int .u8 q.b,.int .u8 q.c,.int .u8 q.d,.int .u8 q.e,.int .u8 q.f,.int .u8 q.g,.int .u8 q.h])] [.agg [.int .i64 0,.int .i64 0,.int .i64 0,.int .i64 0,.int .u8 0,.int .u8 0,.int .u8 0,.int .u8 0,.int .u8 0,.int .u8 0,.int .u8 0,.int .u8 0,.int .u8 0,.int .u8 0,.int .u8 0,.int .u8 0,.int .u8 0,.int .u8 0,.int .u8 0,.int .u8 0,.bool false,.slice 1 []],.int .i64 9]:=by
 have x:=c28 (⟨B,D,a.s,a.e,k,p,c,U⟩:Ac) c n m q (by show U.length≤_; omega) hk hp
 rw [hA,ht,show crE (⟨B,D,a.s,a.e,k,p,c,U⟩:Ac) c n m q=9 by
  unfold crE; rw [hv]
  show firstOf [bif U.contains n then 9 else 0,_,_]=9
  rw [List.contains_iff_mem.2 hn]; rfl] at x
 exact x
theorem ckA_keys {B D:Int} {k p k2 p2:Ky} {c c2:Bool} {U:List Int} (h:ckA (⟨B,D,a.s,a.e,k,p,c,U⟩:Ac) c=0) (h2:(bif c2 then false else !(kz p2))=false):ckA (⟨B,D,a.s,a.e,k2,p2,c2,U⟩:Ac) c2=0:=by
 have hF:=ckA_F h
 have e0:=ckA_0 hF
 rw [h] at e0
 have hF2:ckF (⟨B,D,a.s,a.e,k2,p2,c2,U⟩:Ac) c2=0:=by
  have e1:=firstOf_zero hF (within3 B (-1000000000000) 1000000000000) (by simp)
  have e2:=firstOf_zero hF (within3 D 0 1000000000000) (by simp)
  have e3:=firstOf_zero hF (within3 a.s 0 100) (by simp)
  have e4:=firstOf_zero hF (within3 a.e 0 100000000) (by simp)
  have e6:=firstOf_zero hF (bif decide ((256:Int) < (((ints U).length:Nat):Int)) then 5 else 0) (by simp)
  show firstOf [within3 B (-1000000000000) 1000000000000,within3 D 0 1000000000000,within3 a.s 0 100,within3 a.e 0 100000000,bif (bif c2 then false else !(kz p2)) then 1 else 0,bif decide ((256:Int) < (((ints U).length:Nat):Int)) then 5 else 0]=0
  rw [e1,e2,e3,e4,e6,h2]; rfl
 rw [ckA_0 hF2]
 exact e0.symm
end
theorem c69 (k:Ky) (N:List Int) (i n:Int) (m am:Int) (hk:k.ok) (h0:0≤i) (hx:(ints N)[i.toNat]?=some (.int .i64 n)) (hm:m=1+IntKind.wrap .i64 am) (hb:0≤am∧am≤65535) (ht:ckT n m=0):CallDet Tryz.prog 69 [.d (.agg [.int .u8 k.a,.int .u8 k.b,.int .u8 k.c,.int .u8 k.d,.int .u8 k.e,.int .u8 k.f,.int .u8 k.g,.int .u8 k.h]),.d (.int .i64 i),.cp [.slice 1 (ints N)] 0,.cp [.int .u16 am] 0] [.agg [.int .i64 n,.int .i64 m,.int .u8 (sealK k (o4 n++o4 m)).a,.int .u8 (sealK k (o4 n++o4 m)).b,.int .u8 (sealK k (o4 n++o4 m)).c,.int .u8 (sealK k (o4 n++o4 m)).d,.int .u8 (sealK k (o4 n++o4 m)).e,.int .u8 (sealK k (o4 n++o4 m)).f,.int .u8 (sealK k (o4 n++o4 m)).g,.int .u8 (sealK k (o4 n++o4 m)).h]]:=by
 have c38_:=c38 n m k hk
 rw [ht] at c38_
 have hw:IntKind.wrap .i64 am=am:=IntWalk.i64_in _ (by omega)
 rw [hm] at c38_ ⊢
 refine call_of_vc (x:=jr69) (by kernel_rfl) rfl ?_
 refine ix_at hx ?_ ?_
 assumption
 refine ca rfl ?_
 refine ar_add ?_ ?_
 refine an ?_ ?_
 (show (-9223372036854775808:Int)≤(1:Int)+IntKind.wrap IntKind.i64 am; omega)
 (show (1:Int)+IntKind.wrap IntKind.i64 am≤(9223372036854775807:Int); omega)
 refine ca c38_ ?_
 exact rfl
theorem cn_one:∀ {l:List Int},(∀ x∈l,0 < x)→cn l 1=0
 | [],_=>rfl
 | x::r,h=>by
  have:=h x List.mem_cons_self
  rw [cn,if_neg (by omega),cn_one (l:=r) fun y hy=>h y (List.mem_cons_of_mem _ hy)]
structure P9 where
 n:Int
 R:List Int
theorem v9 {a:Ac} {c:Bool} {q:Ky} {am:Int} {Q:AExit→St→Prop} (ha:Asc a.u) (hpos:∀ x∈a.u,0 < x) (hl:a.u.length≤12) (hQ:∀ (R:List Int) (x:Int),R.length=4→R.Nodup→(∀ z∈R,z∉a.u∧1≤z∧z≤17)→∀ y:Bool,Q (.exit 0) ⟨[(3,.ptr 0 0),(4,.ptr 1 0),(5,.ptr 2 0),(7,.ptr 4 0),(8,.d (.int .i64 (x))),(71,.sl 3 (ints R).length),(72,.d (.int .i64 (((ints R).length:Nat):Int))),(73,.d (.bool y))],[.cbox [.int .i64 (a.b),.int .i64 (a.d),.int .i64 a.s,.int .i64 a.e,.int .u8 a.k.a,.int .u8 a.k.b,.int .u8 a.k.c,.int .u8 a.k.d,.int .u8 a.k.e,.int .u8 a.k.f,.int .u8 a.k.g,.int .u8 a.k.h,.int .u8 a.n.a,.int .u8 a.n.b,.int .u8 a.n.c,.int .u8 a.n.d,.int .u8 a.n.e,.int .u8 a.n.f,.int .u8 a.n.g,.int .u8 a.n.h,.bool c,.slice 1 (ints a.u)],.cbox [.int .u8 q.a,.int .u8 q.b,.int .u8 q.c,.int .u8 q.d,.int .u8 q.e,.int .u8 q.f,.int .u8 q.g,.int .u8 q.h],.cbox [.int .u16 am],.row 3 1 (ints R) false,.box [.sl 3 (ints R).length],.none,.none,.none,.none,.none,.none,.none,.none,.none,.none,.none,.none,.none,.none]⟩):vc Tryz.prog 268 seg9 ⟨[(3,.ptr 0 0),(4,.ptr 1 0),(5,.ptr 2 0),(7,.ptr 4 0),(8,.d (.int .i64 (1)))],[.cbox [.int .i64 (a.b),.int .i64 (a.d),.int .i64 a.s,.int .i64 a.e,.int .u8 a.k.a,.int .u8 a.k.b,.int .u8 a.k.c,.int .u8 a.k.d,.int .u8 a.k.e,.int .u8 a.k.f,.int .u8 a.k.g,.int .u8 a.k.h,.int .u8 a.n.a,.int .u8 a.n.b,.int .u8 a.n.c,.int .u8 a.n.d,.int .u8 a.n.e,.int .u8 a.n.f,.int .u8 a.n.g,.int .u8 a.n.h,.bool c,.slice 1 (ints a.u)],.cbox [.int .u8 q.a,.int .u8 q.b,.int .u8 q.c,.int .u8 q.d,.int .u8 q.e,.int .u8 q.f,.int .u8 q.g,.int .u8 q.h],.cbox [.int .u16 am],.row 3 1 (([]:List Data)) false,.box [.sl 3 (([]:List Data)).length],.none,.none,.none,.none,.none,.none,.none,.none,.none,.none,.none,.none,.none,.none]⟩ Q:=by
 have hia:∀ (A:List Int) (z:Int),ints (A++[z])=ints A++[Data.int .i64 z]:=fun A z=>List.map_append
 unfold seg9
 refine loop_st (fun p:P9=>⟨[(3,.ptr 0 0),(4,.ptr 1 0),(5,.ptr 2 0),(7,.ptr 4 0),(8,.d (.int .i64 (p.n)))],[.cbox [.int .i64 (a.b),.int .i64 (a.d),.int .i64 a.s,.int .i64 a.e,.int .u8 a.k.a,.int .u8 a.k.b,.int .u8 a.k.c,.int .u8 a.k.d,.int .u8 a.k.e,.int .u8 a.k.f,.int .u8 a.k.g,.int .u8 a.k.h,.int .u8 a.n.a,.int .u8 a.n.b,.int .u8 a.n.c,.int .u8 a.n.d,.int .u8 a.n.e,.int .u8 a.n.f,.int .u8 a.n.g,.int .u8 a.n.h,.bool c,.slice 1 (ints a.u)],.cbox [.int .u8 q.a,.int .u8 q.b,.int .u8 q.c,.int .u8 q.d,.int .u8 q.e,.int .u8 q.f,.int .u8 q.g,.int .u8 q.h],.cbox [.int .u16 am],.row 3 1 (ints p.R) false,.box [.sl 3 (ints p.R).length],.none,.none,.none,.none,.none,.none,.none,.none,.none,.none,.none,.none,.none,.none]⟩) (fun p=>((1≤p.n∧p.R.length≤4)∧((cn a.u p.n+p.R.length:Nat):Int)+1=p.n)∧p.R.Nodup∧∀ z∈p.R,z∉a.u∧1≤z∧z < p.n) (fun p=>(100 - p.n).toNat) ⟨1,[]⟩ rfl ⟨⟨⟨by decide,by decide⟩,by
  have:=cn_one hpos
  show ((cn a.u 1+0:Nat):Int)+1=1
  omega⟩,List.nodup_nil,fun z hz=>by cases hz⟩ ?_
 rintro ⟨x,R⟩ ⟨⟨⟨h1,hR4⟩,hc⟩,hnd,hz⟩
 have h1:1≤x:=h1
 have hR4:R.length≤4:=hR4
 have hc:((cn a.u x+R.length:Nat):Int)+1=x:=hc
 have hnd:R.Nodup:=hnd
 have hz:∀ z∈R,z∉a.u∧1≤z∧z < x:=hz
 have hcl:=cn_le a.u x
 have hil:(ints R).length=R.length:=List.length_map _
 have c66_:=c66 a.u x (by omega)
 dsimp only
 by_cases h4:R.length < 4
 ·by_cases hm:x∈a.u
  ·rw [List.contains_iff_mem.2 hm] at c66_
   have fin:∃ a':P9,((((1≤a'.n∧a'.R.length≤4)∧((cn a.u a'.n+a'.R.length:Nat):Int)+1=a'.n)∧a'.R.Nodup∧∀ z∈a'.R,z∉a.u∧1≤z∧z < a'.n)∧(100 - a'.n).toNat < (100 - x).toNat)∧(⟨[(3,.ptr 0 0),(4,.ptr 1 0),(5,.ptr 2 0),(7,.ptr 4 0),(8,.d (.int .i64 (x+1)))],[.cbox [.int .i64 (a.b),.int .i64 (a.d),.int .i64 a.s,.int .i64 a.e,.int .u8 a.k.a,.int .u8 a.k.b,.int .u8 a.k.c,.int .u8 a.k.d,.int .u8 a.k.e,.int .u8 a.k.f,.int .u8 a.k.g,.int .u8 a.k.h,.int .u8 a.n.a,.int .u8 a.n.b,.int .u8 a.n.c,.int .u8 a.n.d,.int .u8 a.n.e,.int .u8 a.n.f,.int .u8 a.n.g,.int .u8 a.n.h,.bool c,.slice 1 (ints a.u)],.cbox [.int .u8 q.a,.int .u8 q.b,.int .u8 q.c,.int .u8 q.d,.int .u8 q.e,.int .u8 q.f,.int .u8 q.g,.int .u8 q.h],.cbox [.int .u16 am],.row 3 1 (ints R) false,.box [.sl 3 (ints R).length],.none,.none,.none,.none,.none,.none,.none,.none,.none,.none,.none,.none,.none,.none]⟩:St)=⟨[(3,.ptr 0 0),(4,.ptr 1 0),(5,.ptr 2 0),(7,.ptr 4 0),(8,.d (.int .i64 (a'.n)))],[.cbox [.int .i64 (a.b),.int .i64 (a.d),.int .i64 a.s,.int .i64 a.e,.int .u8 a.k.a,.int .u8 a.k.b,.int .u8 a.k.c,.int .u8 a.k.d,.int .u8 a.k.e,.int .u8 a.k.f,.int .u8 a.k.g,.int .u8 a.k.h,.int .u8 a.n.a,.int .u8 a.n.b,.int .u8 a.n.c,.int .u8 a.n.d,.int .u8 a.n.e,.int .u8 a.n.f,.int .u8 a.n.g,.int .u8 a.n.h,.bool c,.slice 1 (ints a.u)],.cbox [.int .u8 q.a,.int .u8 q.b,.int .u8 q.c,.int .u8 q.d,.int .u8 q.e,.int .u8 q.f,.int .u8 q.g,.int .u8 q.h],.cbox [.int .u16 am],.row 3 1 (ints a'.R) false,.box [.sl 3 (ints a'.R).length],.none,.none,.none,.none,.none,.none,.none,.none,.none,.none,.none,.none,.none,.none]⟩:=⟨⟨x+1,R⟩,⟨⟨⟨⟨by show 1≤x+1; omega,hR4⟩,by show ((cn a.u (x+1)+R.length:Nat):Int)+1=x+1; rw [cn_in ha hm]; omega⟩,hnd,fun z h=>⟨(hz z h).1,(hz z h).2.1,by show z < x+1; have:=(hz z h).2.2; omega⟩⟩,by show (100 - (x+1)).toNat < _; omega⟩,rfl⟩
   refine sd ?_
   refine sd ?_
   refine b_lt (fun t1=>?_) (fun t1=>?_)
   refine ca c66_ ?_
   refine ar_add ?_ ?_
   refine an ?_ ?_
   (show (-9223372036854775808:Int)≤x+(1:Int); omega)
   (show x+(1:Int)≤(9223372036854775807:Int); omega)
   rotate_left
   (exfalso; omega)
   all_goals exact fin
  ·rw [show a.u.contains x=false by rw [Bool.eq_false_iff]; intro e; exact hm (List.contains_iff_mem.1 e)] at c66_
   have hnew:(R++[x]).Nodup∧∀ z∈R++[x],z∉a.u∧1≤z∧z < x+1:=by
    refine ⟨?_,fun z h=>?_⟩
    ·rw [List.nodup_append]
     refine ⟨hnd,by simp,fun y hy b hb=>?_⟩
     rw [List.mem_singleton] at hb
     subst hb
     have:=(hz y hy).2.2
     omega
    ·rcases List.mem_append.1 h with h | h
     ·exact ⟨(hz z h).1,(hz z h).2.1,by have:=(hz z h).2.2; omega⟩
     ·rw [List.mem_singleton.1 h]; exact ⟨hm,h1,by omega⟩
   have fin:∃ a':P9,((((1≤a'.n∧a'.R.length≤4)∧((cn a.u a'.n+a'.R.length:Nat):Int)+1=a'.n)∧a'.R.Nodup∧∀ z∈a'.R,z∉a.u∧1≤z∧z < a'.n)∧(100 - a'.n).toNat < (100 - x).toNat)∧(⟨[(3,.ptr 0 0),(4,.ptr 1 0),(5,.ptr 2 0),(7,.ptr 4 0),(8,.d (.int .i64 (x+1)))],[.cbox [.int .i64 (a.b),.int .i64 (a.d),.int .i64 a.s,.int .i64 a.e,.int .u8 a.k.a,.int .u8 a.k.b,.int .u8 a.k.c,.int .u8 a.k.d,.int .u8 a.k.e,.int .u8 a.k.f,.int .u8 a.k.g,.int .u8 a.k.h,.int .u8 a.n.a,.int .u8 a.n.b,.int .u8 a.n.c,.int .u8 a.n.d,.int .u8 a.n.e,.int .u8 a.n.f,.int .u8 a.n.g,.int .u8 a.n.h,.bool c,.slice 1 (ints a.u)],.cbox [.int .u8 q.a,.int .u8 q.b,.int .u8 q.c,.int .u8 q.d,.int .u8 q.e,.int .u8 q.f,.int .u8 q.g,.int .u8 q.h],.cbox [.int .u16 am],.row 3 1 (ints R++[Data.int .i64 x]) false,.box [.sl 3 (ints R++[Data.int .i64 x]).length],.none,.none,.none,.none,.none,.none,.none,.none,.none,.none,.none,.none,.none,.none]⟩:St)=⟨[(3,.ptr 0 0),(4,.ptr 1 0),(5,.ptr 2 0),(7,.ptr 4 0),(8,.d (.int .i64 (a'.n)))],[.cbox [.int .i64 (a.b),.int .i64 (a.d),.int .i64 a.s,.int .i64 a.e,.int .u8 a.k.a,.int .u8 a.k.b,.int .u8 a.k.c,.int .u8 a.k.d,.int .u8 a.k.e,.int .u8 a.k.f,.int .u8 a.k.g,.int .u8 a.k.h,.int .u8 a.n.a,.int .u8 a.n.b,.int .u8 a.n.c,.int .u8 a.n.d,.int .u8 a.n.e,.int .u8 a.n.f,.int .u8 a.n.g,.int .u8 a.n.h,.bool c,.slice 1 (ints a.u)],.cbox [.int .u8 q.a,.int .u8 q.b,.int .u8 q.c,.int .u8 q.d,.int .u8 q.e,.int .u8 q.f,.int .u8 q.g,.int .u8 q.h],.cbox [.int .u16 am],.row 3 1 (ints a'.R) false,.box [.sl 3 (ints a'.R).length],.none,.none,.none,.none,.none,.none,.none,.none,.none,.none,.none,.none,.none,.none]⟩:=⟨⟨x+1,R++[x]⟩,⟨⟨⟨⟨by show 1≤x+1; omega,by show (R++[x]).length≤4; simp only [List.length_append,List.length_cons,List.length_nil]; omega⟩,by show ((cn a.u (x+1)+(R++[x]).length:Nat):Int)+1=x+1; rw [cn_out hm]; simp only [List.length_append,List.length_cons,List.length_nil]; omega⟩,hnew⟩,by show (100 - (x+1)).toNat < _; omega⟩,by rw [← hia]⟩
   refine sd ?_
   refine sd ?_
   refine b_lt (fun t1=>?_) (fun t1=>?_)
   refine ca c66_ ?_
   refine sd ?_
   refine sd ?_
   refine sd ?_
   refine an ?_ ?_
   refine an ?_ ?_
   exact rfl
   refine an ?_ ?_
   exact rfl
   refine an ?_ ?_
   exact rfl
   refine an ?_ ?_
   (show (List.length (ints R)+(1:Nat)) * (8:Nat)≤(2:Nat) ^ (47:Nat); omega)
   (show List.length (ints R)+(1:Nat)≤(2:Nat) ^ (47:Nat); omega)
   refine sd ?_
   refine ar_add ?_ ?_
   refine an ?_ ?_
   (show (-9223372036854775808:Int)≤x+(1:Int); omega)
   (show x+(1:Int)≤(9223372036854775807:Int); omega)
   rotate_left
   (exfalso; omega)
   all_goals exact fin
 ·have e:R.length=4:=by omega
  have hQ:=hQ R x e hnd (fun z h=>⟨(hz z h).1,(hz z h).2.1,by have:=(hz z h).2.2; omega⟩)
  refine sd ?_
  refine sd ?_
  refine b_lt (fun t1=>?_) (fun t1=>?_)
  (exfalso; omega)
  rotate_left
  all_goals exact hQ _
end Vc
set_option maxRecDepth 10000
set_option maxHeartbeats 8000000
namespace Vc
open Go Go.Proofs
@[irreducible] def rest9 : ACode := (.asdat 7 (.asdat 7 (.seq
   (.reg [] [⟨some 85,.mkf (.func 69) [] [(.tmp 7),(.tmp 5)],none⟩,
    ⟨some 9,.mov (.tmp 85),none⟩])
   (.seq
    (.regd [7] [⟨some 87,.ld true 22 (.tmp 3),none⟩,
     ⟨some 88,.call 17 [(.tmp 87)],none⟩,
     ⟨some 89,.mov (.tmp 9),none⟩,
     ⟨some 90,.fad 4 (.tmp 3),none⟩,
     ⟨some 91,.ld true 8 (.tmp 90),none⟩,
     ⟨some 92,.callv (.tmp 89) [(.tmp 91),(.cst (.d (.int .i64 0)))],none⟩,
     ⟨some 93,.call 28 [(.tmp 88),(.tmp 92)],none⟩,
     ⟨some 86,.mov (.tmp 93),none⟩,
     ⟨some 94,.ext 0 (.tmp 86),none⟩,
     ⟨some 95,.ext 1 (.tmp 86),none⟩,
     ⟨some 10,.alloc 7 [(.d (.int .i64 0)),(.d (.int .i64 0)),(.d (.int .i64 0)),(.d (.int .i64 0)),(.d (.int .u8 0)),(.d (.int .u8 0)),(.d (.int .u8 0)),(.d (.int .u8 0)),(.d (.int .u8 0)),(.d (.int .u8 0)),(.d (.int .u8 0)),(.d (.int .u8 0)),(.d (.int .u8 0)),(.d (.int .u8 0)),(.d (.int .u8 0)),(.d (.int .u8 0)),(.d (.int .u8 0)),(.d (.int .u8 0)),(.d (.int .u8 0)),(.d (.int .u8 0)),(.d (.bool false)),(.nils 1)],none⟩,
     ⟨none,.st 22 (.tmp 10) (.tmp 94),none⟩,
     ⟨some 11,.mov (.tmp 95),none⟩] [(0,2),(1,2),(0,3),(1,3),(2,3),(0,4),(1,4),(2,4),(8,9),(0,10),(1,10),(2,10),(3,10),(4,10),(5,10),(6,10),(7,10),(8,10),(9,10),(9,11)])
    (.seq
    (.regd [8] [⟨some 97,.ld true 22 (.tmp 3),none⟩,
     ⟨some 98,.call 17 [(.tmp 97)],none⟩,
     ⟨some 99,.mov (.tmp 9),none⟩,
     ⟨some 100,.ld true 8 (.tmp 4),none⟩,
     ⟨some 101,.callv (.tmp 99) [(.tmp 100),(.cst (.d (.int .i64 0)))],none⟩,
     ⟨some 102,.call 28 [(.tmp 98),(.tmp 101)],none⟩,
     ⟨some 96,.mov (.tmp 102),none⟩,
     ⟨some 103,.ext 0 (.tmp 96),none⟩,
     ⟨some 104,.ext 1 (.tmp 96),none⟩,
     ⟨some 12,.alloc 8 [(.d (.int .i64 0)),(.d (.int .i64 0)),(.d (.int .i64 0)),(.d (.int .i64 0)),(.d (.int .u8 0)),(.d (.int .u8 0)),(.d (.int .u8 0)),(.d (.int .u8 0)),(.d (.int .u8 0)),(.d (.int .u8 0)),(.d (.int .u8 0)),(.d (.int .u8 0)),(.d (.int .u8 0)),(.d (.int .u8 0)),(.d (.int .u8 0)),(.d (.int .u8 0)),(.d (.int .u8 0)),(.d (.int .u8 0)),(.d (.int .u8 0)),(.d (.int .u8 0)),(.d (.bool false)),(.nils 1)],none⟩,
     ⟨none,.st 22 (.tmp 12) (.tmp 103),none⟩,
     ⟨some 13,.mov (.tmp 104),none⟩] [(0,2),(1,2),(0,3),(1,3),(2,3),(7,8),(0,9),(1,9),(2,9),(3,9),(4,9),(5,9),(6,9),(7,9),(8,9),(8,10)])
    (.seq
     (.reg [9] [⟨some 106,.ld true 22 (.tmp 10),none⟩,
      ⟨some 107,.ld true 8 (.tmp 4),none⟩,
      ⟨some 108,.call 36 [(.tmp 106),(.tmp 107)],none⟩,
      ⟨some 105,.mov (.tmp 108),none⟩,
      ⟨some 109,.ext 0 (.tmp 105),none⟩,
      ⟨some 110,.ext 1 (.tmp 105),none⟩,
      ⟨some 14,.alloc 9 [(.d (.int .i64 0)),(.d (.int .i64 0)),(.d (.int .i64 0)),(.d (.int .i64 0)),(.d (.int .u8 0)),(.d (.int .u8 0)),(.d (.int .u8 0)),(.d (.int .u8 0)),(.d (.int .u8 0)),(.d (.int .u8 0)),(.d (.int .u8 0)),(.d (.int .u8 0)),(.d (.int .u8 0)),(.d (.int .u8 0)),(.d (.int .u8 0)),(.d (.int .u8 0)),(.d (.int .u8 0)),(.d (.int .u8 0)),(.d (.int .u8 0)),(.d (.int .u8 0)),(.d (.bool false)),(.nils 1)],none⟩,
      ⟨none,.st 22 (.tmp 14) (.tmp 109),none⟩,
      ⟨some 15,.mov (.tmp 110),none⟩])
     (.seq
     (.regd [10] [⟨some 112,.ld true 22 (.tmp 14),none⟩,
      ⟨some 113,.mov (.tmp 9),none⟩,
      ⟨some 114,.fad 4 (.tmp 3),none⟩,
      ⟨some 115,.ld true 8 (.tmp 114),none⟩,
      ⟨some 116,.callv (.tmp 113) [(.tmp 115),(.cst (.d (.int .i64 1)))],none⟩,
      ⟨some 117,.call 28 [(.tmp 112),(.tmp 116)],none⟩,
      ⟨some 111,.mov (.tmp 117),none⟩,
      ⟨some 118,.ext 0 (.tmp 111),none⟩,
      ⟨some 119,.ext 1 (.tmp 111),none⟩,
      ⟨some 16,.alloc 10 [(.d (.int .i64 0)),(.d (.int .i64 0)),(.d (.int .i64 0)),(.d (.int .i64 0)),(.d (.int .u8 0)),(.d (.int .u8 0)),(.d (.int .u8 0)),(.d (.int .u8 0)),(.d (.int .u8 0)),(.d (.int .u8 0)),(.d (.int .u8 0)),(.d (.int .u8 0)),(.d (.int .u8 0)),(.d (.int .u8 0)),(.d (.int .u8 0)),(.d (.int .u8 0)),(.d (.int .u8 0)),(.d (.int .u8 0)),(.d (.int .u8 0)),(.d (.int .u8 0)),(.d (.bool false)),(.nils 1)],none⟩,
      ⟨none,.st 22 (.tmp 16) (.tmp 118),none⟩,
      ⟨some 17,.mov (.tmp 119),none⟩] [(0,1),(0,2),(1,2),(0,3),(1,3),(0,4),(7,8),(0,9),(1,9),(2,9),(3,9),(4,9),(5,9),(6,9),(7,9),(8,9),(8,10)])
     (.seq
      (.regd [11] [⟨some 121,.ld true 22 (.tmp 16),none⟩,
       ⟨some 122,.mov (.tmp 9),none⟩,
       ⟨some 123,.ld true 8 (.tmp 4),none⟩,
       ⟨some 124,.callv (.tmp 122) [(.tmp 123),(.cst (.d (.int .i64 2)))],none⟩,
       ⟨some 125,.call 28 [(.tmp 121),(.tmp 124)],none⟩,
       ⟨some 120,.mov (.tmp 125),none⟩,
       ⟨some 126,.ext 0 (.tmp 120),none⟩,
       ⟨some 127,.ext 1 (.tmp 120),none⟩,
       ⟨some 18,.alloc 11 [(.d (.int .i64 0)),(.d (.int .i64 0)),(.d (.int .i64 0)),(.d (.int .i64 0)),(.d (.int .u8 0)),(.d (.int .u8 0)),(.d (.int .u8 0)),(.d (.int .u8 0)),(.d (.int .u8 0)),(.d (.int .u8 0)),(.d (.int .u8 0)),(.d (.int .u8 0)),(.d (.int .u8 0)),(.d (.int .u8 0)),(.d (.int .u8 0)),(.d (.int .u8 0)),(.d (.int .u8 0)),(.d (.int .u8 0)),(.d (.int .u8 0)),(.d (.int .u8 0)),(.d (.bool false)),(.nils 1)],none⟩,
       ⟨none,.st 22 (.tmp 18) (.tmp 126),none⟩,
       ⟨some 19,.mov (.tmp 127),none⟩] [(0,1),(0,2),(1,2),(0,3),(6,7),(0,8),(1,8),(2,8),(3,8),(4,8),(5,8),(6,8),(7,8),(7,9)])
      (.seq
      (.reg [12] [⟨some 129,.ld true 22 (.tmp 18),none⟩,
       ⟨some 130,.build [(.d (.int .u8 0)),(.d (.int .u8 0)),(.d (.int .u8 0)),(.d (.int .u8 0)),(.d (.int .u8 0)),(.d (.int .u8 0)),(.d (.int .u8 0)),(.d (.int .u8 0))] [],none⟩,
       ⟨some 131,.call 36 [(.tmp 129),(.tmp 130)],none⟩,
       ⟨some 128,.mov (.tmp 131),none⟩,
       ⟨some 132,.ext 0 (.tmp 128),none⟩,
       ⟨some 133,.ext 1 (.tmp 128),none⟩,
       ⟨some 20,.alloc 12 [(.d (.int .i64 0)),(.d (.int .i64 0)),(.d (.int .i64 0)),(.d (.int .i64 0)),(.d (.int .u8 0)),(.d (.int .u8 0)),(.d (.int .u8 0)),(.d (.int .u8 0)),(.d (.int .u8 0)),(.d (.int .u8 0)),(.d (.int .u8 0)),(.d (.int .u8 0)),(.d (.int .u8 0)),(.d (.int .u8 0)),(.d (.int .u8 0)),(.d (.int .u8 0)),(.d (.int .u8 0)),(.d (.int .u8 0)),(.d (.int .u8 0)),(.d (.int .u8 0)),(.d (.bool false)),(.nils 1)],none⟩,
       ⟨none,.st 22 (.tmp 20) (.tmp 132),none⟩,
       ⟨some 21,.mov (.tmp 133),none⟩])
      (.seq
       (.reg [13] [⟨some 135,.ld true 22 (.tmp 18),none⟩,
        ⟨some 136,.call 37 [(.tmp 135)],none⟩,
        ⟨some 134,.mov (.tmp 136),none⟩,
        ⟨some 137,.ext 0 (.tmp 134),none⟩,
        ⟨some 138,.ext 1 (.tmp 134),none⟩,
        ⟨some 22,.alloc 13 [(.d (.int .i64 0)),(.d (.int .i64 0)),(.d (.int .i64 0)),(.d (.int .i64 0)),(.d (.int .u8 0)),(.d (.int .u8 0)),(.d (.int .u8 0)),(.d (.int .u8 0)),(.d (.int .u8 0)),(.d (.int .u8 0)),(.d (.int .u8 0)),(.d (.int .u8 0)),(.d (.int .u8 0)),(.d (.int .u8 0)),(.d (.int .u8 0)),(.d (.int .u8 0)),(.d (.int .u8 0)),(.d (.int .u8 0)),(.d (.int .u8 0)),(.d (.int .u8 0)),(.d (.bool false)),(.nils 1)],none⟩,
        ⟨none,.st 22 (.tmp 22) (.tmp 137),none⟩,
        ⟨some 23,.mov (.tmp 138),none⟩])
       (.seq
       (.regd [14] [⟨some 140,.ld true 22 (.tmp 22),none⟩,
        ⟨some 141,.mov (.tmp 9),none⟩,
        ⟨some 142,.fad 4 (.tmp 3),none⟩,
        ⟨some 143,.ld true 8 (.tmp 142),none⟩,
        ⟨some 144,.callv (.tmp 141) [(.tmp 143),(.cst (.d (.int .i64 3)))],none⟩,
        ⟨some 145,.call 28 [(.tmp 140),(.tmp 144)],none⟩,
        ⟨some 139,.mov (.tmp 145),none⟩,
        ⟨some 146,.ext 0 (.tmp 139),none⟩,
        ⟨some 147,.ext 1 (.tmp 139),none⟩,
        ⟨some 24,.alloc 14 [(.d (.int .i64 0)),(.d (.int .i64 0)),(.d (.int .i64 0)),(.d (.int .i64 0)),(.d (.int .u8 0)),(.d (.int .u8 0)),(.d (.int .u8 0)),(.d (.int .u8 0)),(.d (.int .u8 0)),(.d (.int .u8 0)),(.d (.int .u8 0)),(.d (.int .u8 0)),(.d (.int .u8 0)),(.d (.int .u8 0)),(.d (.int .u8 0)),(.d (.int .u8 0)),(.d (.int .u8 0)),(.d (.int .u8 0)),(.d (.int .u8 0)),(.d (.int .u8 0)),(.d (.bool false)),(.nils 1)],none⟩,
        ⟨none,.st 22 (.tmp 24) (.tmp 146),none⟩,
        ⟨some 25,.mov (.tmp 147),none⟩] [(0,1),(0,2),(1,2),(0,3),(1,3),(0,4),(7,8),(0,9),(1,9),(2,9),(3,9),(4,9),(5,9),(6,9),(7,9),(8,9),(8,10)])
       (.seq
        (.regd [15] [⟨some 149,.ld true 22 (.tmp 22),none⟩,
         ⟨some 150,.mov (.tmp 9),none⟩,
         ⟨some 151,.ld true 8 (.tmp 4),none⟩,
         ⟨some 152,.callv (.tmp 150) [(.tmp 151),(.cst (.d (.int .i64 3)))],none⟩,
         ⟨some 153,.call 28 [(.tmp 149),(.tmp 152)],none⟩,
         ⟨some 148,.mov (.tmp 153),none⟩,
         ⟨some 154,.ext 0 (.tmp 148),none⟩,
         ⟨some 155,.ext 1 (.tmp 148),none⟩,
         ⟨some 26,.alloc 15 [(.d (.int .i64 0)),(.d (.int .i64 0)),(.d (.int .i64 0)),(.d (.int .i64 0)),(.d (.int .u8 0)),(.d (.int .u8 0)),(.d (.int .u8 0)),(.d (.int .u8 0)),(.d (.int .u8 0)),(.d (.int .u8 0)),(.d (.int .u8 0)),(.d (.int .u8 0)),(.d (.int .u8 0)),(.d (.int .u8 0)),(.d (.int .u8 0)),(.d (.int .u8 0)),(.d (.int .u8 0)),(.d (.int .u8 0)),(.d (.int .u8 0)),(.d (.int .u8 0)),(.d (.bool false)),(.nils 1)],none⟩,
         ⟨none,.st 22 (.tmp 26) (.tmp 154),none⟩,
         ⟨some 27,.mov (.tmp 155),none⟩] [(0,1),(0,2),(1,2),(0,3),(6,7),(0,8),(1,8),(2,8),(3,8),(4,8),(5,8),(6,8),(7,8),(7,9)])
        (.seq
        (.regd [16] [⟨some 157,.ld true 22 (.tmp 26),none⟩,
         ⟨some 158,.mov (.tmp 9),none⟩,
         ⟨some 159,.ld true 8 (.tmp 4),none⟩,
         ⟨some 160,.callv (.tmp 158) [(.tmp 159),(.cst (.d (.int .i64 0)))],none⟩,
         ⟨some 161,.call 28 [(.tmp 157),(.tmp 160)],none⟩,
         ⟨some 156,.mov (.tmp 161),none⟩,
         ⟨some 162,.ext 0 (.tmp 156),none⟩,
         ⟨some 163,.ext 1 (.tmp 156),none⟩,
         ⟨some 28,.alloc 16 [(.d (.int .i64 0)),(.d (.int .i64 0)),(.d (.int .i64 0)),(.d (.int .i64 0)),(.d (.int .u8 0)),(.d (.int .u8 0)),(.d (.int .u8 0)),(.d (.int .u8 0)),(.d (.int .u8 0)),(.d (.int .u8 0)),(.d (.int .u8 0)),(.d (.int .u8 0)),(.d (.int .u8 0)),(.d (.int .u8 0)),(.d (.int .u8 0)),(.d (.int .u8 0)),(.d (.int .u8 0)),(.d (.int .u8 0)),(.d (.int .u8 0)),(.d (.int .u8 0)),(.d (.bool false)),(.nils 1)],none⟩,
         ⟨none,.st 22 (.tmp 28) (.tmp 162),none⟩,
         ⟨some 29,.mov (.tmp 163),none⟩] [(0,1),(0,2),(1,2),(0,3),(6,7),(0,8),(1,8),(2,8),(3,8),(4,8),(5,8),(6,8),(7,8),(7,9)])
        (.seq
         (.reg [17] [⟨some 165,.ld true 22 (.tmp 22),none⟩,
          ⟨some 166,.call 37 [(.tmp 165)],none⟩,
          ⟨some 164,.mov (.tmp 166),none⟩,
          ⟨some 167,.ext 0 (.tmp 164),none⟩,
          ⟨some 168,.ext 1 (.tmp 164),none⟩,
          ⟨some 30,.alloc 17 [(.d (.int .i64 0)),(.d (.int .i64 0)),(.d (.int .i64 0)),(.d (.int .i64 0)),(.d (.int .u8 0)),(.d (.int .u8 0)),(.d (.int .u8 0)),(.d (.int .u8 0)),(.d (.int .u8 0)),(.d (.int .u8 0)),(.d (.int .u8 0)),(.d (.int .u8 0)),(.d (.int .u8 0)),(.d (.int .u8 0)),(.d (.int .u8 0)),(.d (.int .u8 0)),(.d (.int .u8 0)),(.d (.int .u8 0)),(.d (.int .u8 0)),(.d (.int .u8 0)),(.d (.bool false)),(.nils 1)],none⟩,
          ⟨none,.st 22 (.tmp 30) (.tmp 167),none⟩,
          ⟨some 31,.mov (.tmp 168),none⟩])
         (.seq
         (.seq
          (.reg [] [⟨some 169,.mov (.tmp 11),none⟩,
           ⟨some 170,.mov (.tmp 15),none⟩,
           ⟨some 171,.arith .add .i64 (.tmp 169) (.tmp 170),none⟩,
           ⟨some 172,.mov (.tmp 17),none⟩,
           ⟨some 173,.arith .add .i64 (.tmp 171) (.tmp 172),none⟩,
           ⟨some 174,.mov (.tmp 19),none⟩,
           ⟨some 175,.arith .add .i64 (.tmp 173) (.tmp 174),none⟩,
           ⟨some 176,.mov (.tmp 23),none⟩,
           ⟨some 177,.arith .add .i64 (.tmp 175) (.tmp 176),none⟩,
           ⟨some 178,.mov (.tmp 27),none⟩,
           ⟨some 179,.arith .add .i64 (.tmp 177) (.tmp 178),none⟩,
           ⟨some 180,.cmp .neq (.tmp 179) (.cst (.d (.int .i64 0))),none⟩,
           ⟨some 181,.mov (.tmp 180),none⟩,
           ⟨some 182,.mov (.tmp 13),some (181,false)⟩,
           ⟨some 183,.cmp .neq (.tmp 182) (.cst (.d (.int .i64 27))),some (181,false)⟩,
           ⟨some 184,.pick (.tmp 181) (.cst (.d (.bool true))) (.tmp 183),none⟩,
           ⟨some 185,.mov (.tmp 184),none⟩,
           ⟨some 186,.mov (.tmp 21),some (185,false)⟩,
           ⟨some 187,.cmp .neq (.tmp 186) (.cst (.d (.int .i64 22))),some (185,false)⟩,
           ⟨some 188,.pick (.tmp 185) (.cst (.d (.bool true))) (.tmp 187),none⟩,
           ⟨some 189,.mov (.tmp 188),none⟩,
           ⟨some 190,.mov (.tmp 25),some (189,false)⟩,
           ⟨some 191,.cmp .neq (.tmp 190) (.cst (.d (.int .i64 27))),some (189,false)⟩,
           ⟨some 192,.pick (.tmp 189) (.cst (.d (.bool true))) (.tmp 191),none⟩,
           ⟨some 193,.mov (.tmp 192),none⟩,
           ⟨some 194,.mov (.tmp 29),some (193,false)⟩,
           ⟨some 195,.cmp .neq (.tmp 194) (.cst (.d (.int .i64 9))),some (193,false)⟩,
           ⟨some 196,.pick (.tmp 193) (.cst (.d (.bool true))) (.tmp 195),none⟩,
           ⟨some 197,.mov (.tmp 196),none⟩,
           ⟨some 198,.mov (.tmp 31),some (197,false)⟩,
           ⟨some 199,.cmp .neq (.tmp 198) (.cst (.d (.int .i64 22))),some (197,false)⟩,
           ⟨some 200,.pick (.tmp 197) (.cst (.d (.bool true))) (.tmp 199),none⟩,
           ⟨some 201,.mov (.tmp 200),none⟩,
           ⟨some 202,.fad 4 (.tmp 26),some (201,false)⟩,
           ⟨some 203,.ld true 8 (.tmp 202),some (201,false)⟩,
           ⟨some 204,.ld true 8 (.tmp 4),some (201,false)⟩,
           ⟨some 205,.aeq true [0,0,0,0,0,0,0,0] (.tmp 203) (.tmp 204),some (201,false)⟩,
           ⟨some 206,.pick (.tmp 201) (.cst (.d (.bool true))) (.tmp 205),none⟩,
           ⟨some 207,.mov (.tmp 206),none⟩,
           ⟨some 208,.fad 20 (.tmp 26),some (207,false)⟩,
           ⟨some 209,.ld false 1 (.tmp 208),some (207,false)⟩,
           ⟨some 210,.pick (.tmp 207) (.cst (.d (.bool true))) (.tmp 209),none⟩,
           ⟨some 211,.mov (.tmp 210),none⟩,
           ⟨some 212,.fad 21 (.tmp 26),some (211,false)⟩,
           ⟨some 213,.ld false 1 (.tmp 212),some (211,false)⟩,
           ⟨some 214,.len (.tmp 213),some (211,false)⟩,
           ⟨some 215,.fad 21 (.tmp 3),some (211,false)⟩,
           ⟨some 216,.ld false 1 (.tmp 215),some (211,false)⟩,
           ⟨some 217,.len (.tmp 216),some (211,false)⟩,
           ⟨some 218,.arith .add .i64 (.tmp 217) (.cst (.d (.int .i64 4))),some (211,false)⟩,
           ⟨some 219,.cmp .neq (.tmp 214) (.tmp 218),some (211,false)⟩,
           ⟨some 220,.pick (.tmp 211) (.cst (.d (.bool true))) (.tmp 219),none⟩])
          (.cond (.tmp 220)
          (.seq
           (.reg [] [⟨some 6,.mov (.cst (.d (.bool false))),none⟩])
           .ret)
          .skip))
         (.seq
          (.reg [] [⟨some 222,.ld true 22 (.tmp 26),none⟩,
           ⟨some 223,.call 18 [(.tmp 222)],none⟩,
           ⟨some 221,.mov (.tmp 223),none⟩,
           ⟨some 224,.ext 0 (.tmp 221),none⟩,
           ⟨some 225,.ext 1 (.tmp 221),none⟩,
           ⟨some 32,.mov (.tmp 224),none⟩,
           ⟨some 33,.mov (.tmp 225),none⟩])
          (.seq
          (.reg [18] [⟨some 227,.ld true 22 (.tmp 26),none⟩,
           ⟨some 228,.ld false 1 (.tmp 5),none⟩,
           ⟨some 229,.conv .i64 (.tmp 228),none⟩,
           ⟨some 230,.call 16 [(.tmp 227),(.tmp 229)],none⟩,
           ⟨some 226,.mov (.tmp 230),none⟩,
           ⟨some 231,.ext 0 (.tmp 226),none⟩,
           ⟨some 232,.ext 1 (.tmp 226),none⟩,
           ⟨some 34,.alloc 18 [(.d (.int .i64 0)),(.d (.int .i64 0)),(.d (.int .i64 0)),(.d (.int .i64 0)),(.d (.int .u8 0)),(.d (.int .u8 0)),(.d (.int .u8 0)),(.d (.int .u8 0)),(.d (.int .u8 0)),(.d (.int .u8 0)),(.d (.int .u8 0)),(.d (.int .u8 0)),(.d (.int .u8 0)),(.d (.int .u8 0)),(.d (.int .u8 0)),(.d (.int .u8 0)),(.d (.int .u8 0)),(.d (.int .u8 0)),(.d (.int .u8 0)),(.d (.int .u8 0)),(.d (.bool false)),(.nils 1)],none⟩,
           ⟨none,.st 22 (.tmp 34) (.tmp 231),none⟩,
           ⟨some 35,.mov (.tmp 232),none⟩])
          (.seq
           (.reg [] [⟨some 234,.ld true 22 (.tmp 34),none⟩,
            ⟨some 235,.call 18 [(.tmp 234)],none⟩,
            ⟨some 233,.mov (.tmp 235),none⟩,
            ⟨some 236,.ext 0 (.tmp 233),none⟩,
            ⟨some 237,.ext 1 (.tmp 233),none⟩,
            ⟨some 36,.mov (.tmp 236),none⟩,
            ⟨some 37,.mov (.tmp 237),none⟩])
           (.seq
           (.reg [] [⟨some 239,.ld true 22 (.tmp 34),none⟩,
            ⟨some 240,.call 19 [(.tmp 239)],none⟩,
            ⟨some 238,.mov (.tmp 240),none⟩,
            ⟨some 241,.ext 0 (.tmp 238),none⟩,
            ⟨some 242,.ext 1 (.tmp 238),none⟩,
            ⟨some 38,.mov (.tmp 241),none⟩,
            ⟨some 39,.mov (.tmp 242),none⟩])
           (.seq
            (.reg [] [⟨some 243,.mov (.tmp 33),none⟩,
             ⟨some 244,.mov (.tmp 35),none⟩,
             ⟨some 245,.arith .add .i64 (.tmp 243) (.tmp 244),none⟩,
             ⟨some 246,.mov (.tmp 37),none⟩,
             ⟨some 247,.arith .add .i64 (.tmp 245) (.tmp 246),none⟩,
             ⟨some 248,.mov (.tmp 39),none⟩,
             ⟨some 249,.arith .add .i64 (.tmp 247) (.tmp 248),none⟩,
             ⟨some 250,.cmp .eql (.tmp 249) (.cst (.d (.int .i64 0))),none⟩,
             ⟨some 251,.mov (.tmp 250),none⟩,
             ⟨some 252,.mov (.tmp 36),some (251,true)⟩,
             ⟨some 253,.mov (.tmp 32),some (251,true)⟩,
             ⟨some 254,.ld false 1 (.tmp 5),some (251,true)⟩,
             ⟨some 255,.conv .i64 (.tmp 254),some (251,true)⟩,
             ⟨some 256,.arith .sub .i64 (.tmp 253) (.tmp 255),some (251,true)⟩,
             ⟨some 257,.cmp .eql (.tmp 252) (.tmp 256),some (251,true)⟩,
             ⟨some 258,.pick (.tmp 251) (.tmp 257) (.cst (.d (.bool false))),none⟩,
             ⟨some 259,.mov (.tmp 258),none⟩,
             ⟨some 260,.mov (.tmp 38),some (259,true)⟩,
             ⟨some 261,.mov (.tmp 36),some (259,true)⟩,
             ⟨some 262,.cmp .lss (.tmp 261) (.cst (.d (.int .i64 0))),some (259,true)⟩,
             ⟨some 263,.beq false (.tmp 260) (.tmp 262),some (259,true)⟩,
             ⟨some 264,.pick (.tmp 259) (.tmp 263) (.cst (.d (.bool false))),none⟩,
             ⟨some 265,.mov (.tmp 264),none⟩,
             ⟨some 266,.call 15 [],some (265,true)⟩,
             ⟨some 267,.pick (.tmp 265) (.tmp 266) (.cst (.d (.bool false))),none⟩,
             ⟨some 6,.mov (.tmp 267),none⟩])
            .ret))))))))))))))))))))
def jr9b:AFun:=⟨268,19,[.tmp 6],
 (.seq
 (.reg [0,1,2] [⟨some 3,.cbx 0 22 (.tmp 0),none⟩,
  ⟨some 4,.cbx 1 8 (.tmp 1),none⟩,
  ⟨some 5,.cbx 2 1 (.tmp 2),none⟩,
  ⟨some 6,.mov (.cst (.d (.bool false))),none⟩])
 (.seq
  (.seq
  (.reg [] [⟨some 40,.fad 21 (.tmp 3),none⟩,
   ⟨some 41,.ld false 1 (.tmp 40),none⟩,
   ⟨some 42,.len (.tmp 41),none⟩,
   ⟨some 43,.cmp .gtr (.tmp 42) (.cst (.d (.int .i64 12))),none⟩,
   ⟨some 44,.mov (.tmp 43),none⟩,
   ⟨some 45,.ld true 22 (.tmp 3),some (44,false)⟩,
   ⟨some 46,.call 20 [(.tmp 45)],some (44,false)⟩,
   ⟨some 47,.cmp .neq (.tmp 46) (.cst (.d (.int .i64 0))),some (44,false)⟩,
   ⟨some 48,.pick (.tmp 44) (.cst (.d (.bool true))) (.tmp 47),none⟩,
   ⟨some 49,.mov (.tmp 48),none⟩,
   ⟨some 50,.fad 20 (.tmp 3),some (49,false)⟩,
   ⟨some 51,.ld false 1 (.tmp 50),some (49,false)⟩,
   ⟨some 52,.pick (.tmp 49) (.cst (.d (.bool true))) (.tmp 51),none⟩,
   ⟨some 53,.mov (.tmp 52),none⟩,
   ⟨some 54,.ld true 8 (.tmp 4),some (53,false)⟩,
   ⟨some 55,.fad 4 (.tmp 3),some (53,false)⟩,
   ⟨some 56,.ld true 8 (.tmp 55),some (53,false)⟩,
   ⟨some 57,.aeq false [0,0,0,0,0,0,0,0] (.tmp 54) (.tmp 56),some (53,false)⟩,
   ⟨some 58,.pick (.tmp 53) (.cst (.d (.bool true))) (.tmp 57),none⟩,
   ⟨some 59,.mov (.tmp 58),none⟩,
   ⟨some 60,.fad 0 (.tmp 3),some (59,false)⟩,
   ⟨some 61,.ld false 1 (.tmp 60),some (59,false)⟩,
   ⟨some 62,.cmp .gtr (.tmp 61) (.cst (.d (.int .i64 1000000000))),some (59,false)⟩,
   ⟨some 63,.pick (.tmp 59) (.cst (.d (.bool true))) (.tmp 62),none⟩,
   ⟨some 64,.mov (.tmp 63),none⟩,
   ⟨some 65,.fad 0 (.tmp 3),some (64,false)⟩,
   ⟨some 66,.ld false 1 (.tmp 65),some (64,false)⟩,
   ⟨some 67,.cmp .lss (.tmp 66) (.cst (.d (.int .i64 (-1000000000)))),some (64,false)⟩,
   ⟨some 68,.pick (.tmp 64) (.cst (.d (.bool true))) (.tmp 67),none⟩])
  (.cond (.tmp 68)
   (.seq
   (.reg [] [⟨some 69,.call 15 [],none⟩,
    ⟨some 6,.mov (.tmp 69),none⟩])
   .ret)
   .skip))
  (.seq
  (.reg [3,4] [⟨some 70,.mk0 3 3 1 8 4,none⟩,
   ⟨some 7,.alloc 4 [(.nils 1)],none⟩,
   ⟨none,.st 1 (.tmp 7) (.tmp 70),none⟩])
  (.seq
   (.seq
   (.reg [] [⟨some 8,.mov (.cst (.d (.int .i64 1))),none⟩])
   (.post [3,4,5,7] [0,1,2,3,4,5,6]
    (.block 0
    (.keep [3,4,5,7,8] [0,1,2,3,4]
     seg9))))
   rest9))))⟩
theorem ckA_bal {a:Ac} {B B2 D:Int} {k p:Ky} {c:Bool} {U:List Int} (h:ckA (⟨B,D,a.s,a.e,k,p,c,U⟩:Ac) c=0) (h1:-1000000000000≤B2) (h2:B2≤1000000000000):ckA (⟨B2,D,a.s,a.e,k,p,c,U⟩:Ac) c=0:=by
 have hF:=ckA_F h
 have e0:=ckA_0 hF
 rw [h] at e0
 have hF2:ckF (⟨B2,D,a.s,a.e,k,p,c,U⟩:Ac) c=0:=by
  have e2:=firstOf_zero hF (within3 D 0 1000000000000) (by simp)
  have e3:=firstOf_zero hF (within3 a.s 0 100) (by simp)
  have e4:=firstOf_zero hF (within3 a.e 0 100000000) (by simp)
  have e5:=firstOf_zero hF (bif (bif c then false else !(kz p)) then 1 else 0) (by simp)
  have e6:=firstOf_zero hF (bif decide ((256:Int) < (((ints U).length:Nat):Int)) then 5 else 0) (by simp)
  show firstOf [within3 B2 (-1000000000000) 1000000000000,within3 D 0 1000000000000,within3 a.s 0 100,within3 a.e 0 100000000,bif (bif c then false else !(kz p)) then 1 else 0,bif decide ((256:Int) < (((ints U).length:Nat):Int)) then 5 else 0]=0
  rw [wi_in h1 h2,e2,e3,e4,e5,e6]; rfl
 rw [ckA_0 hF2]
 exact e0.symm
theorem w9 {a:Ac} {q:Ky} {am x0 x1 x2 x3:Int} {Q:AExit→St→Prop} (hA:ckA a false=0) (hk:a.k.ok) (hp:a.n.ok) (hq:q.ok) (hl:a.u.length≤12) (hne:keq q a.k=false) (hb:0≤am∧am≤65535) (hB:-1000000000≤a.b∧a.b≤1000000000) (hnd:[x0,x1,x2,x3].Nodup) (hz:∀ z∈[x0,x1,x2,x3],z∉a.u∧1≤z∧z≤17) (hR:∀ st,endP [.tmp 6] [.bool true] st→Q .ret st):vc Tryz.prog 268 rest9 ⟨[(3,.ptr 0 0),(4,.ptr 1 0),(5,.ptr 2 0),(7,.ptr 4 0)],[.cbox [.int .i64 (a.b),.int .i64 (a.d),.int .i64 a.s,.int .i64 a.e,.int .u8 a.k.a,.int .u8 a.k.b,.int .u8 a.k.c,.int .u8 a.k.d,.int .u8 a.k.e,.int .u8 a.k.f,.int .u8 a.k.g,.int .u8 a.k.h,.int .u8 a.n.a,.int .u8 a.n.b,.int .u8 a.n.c,.int .u8 a.n.d,.int .u8 a.n.e,.int .u8 a.n.f,.int .u8 a.n.g,.int .u8 a.n.h,.bool false,.slice 1 (ints a.u)],.cbox [.int .u8 q.a,.int .u8 q.b,.int .u8 q.c,.int .u8 q.d,.int .u8 q.e,.int .u8 q.f,.int .u8 q.g,.int .u8 q.h],.cbox [.int .u16 am],.row 3 1 (ints [x0,x1,x2,x3]) false,.box [.sl 3 (ints [x0,x1,x2,x3]).length],.none,.none,.none,.none,.none,.none,.none,.none,.none,.none,.none,.none,.none,.none]⟩ Q:=by
 have hw:IntKind.wrap .i64 am=am:=IntWalk.i64_in _ (by omega)
 have hZk:(⟨0,0,0,0,0,0,0,0⟩:Ky).ok:=by unfold Ky.ok; decide
 simp only [List.nodup_cons,List.mem_cons,List.not_mem_nil,not_or,or_false,List.nodup_nil,not_false_eq_true,and_true] at hnd
 obtain ⟨⟨n01,n02,n03⟩,⟨n12,n13⟩,n23⟩:=hnd
 obtain ⟨u0,z0,y0⟩:=hz x0 (by simp)
 obtain ⟨u1,z1,y1⟩:=hz x1 (by simp)
 obtain ⟨u2,z2,y2⟩:=hz x2 (by simp)
 obtain ⟨u3,z3,y3⟩:=hz x3 (by simp)
 clear hz
 have tk:∀ x:Int,1≤x→x≤17→ckT x (1+IntKind.wrap .i64 am)=0:=fun x h1 h2=>by
  unfold ckT; rw [wi_in (by omega) (by omega),wi_in (by omega) (by omega)]; rfl
 have t0:=tk x0 z0 y0
 have t1:=tk x1 z1 y1
 have t2:=tk x2 z2 y2
 have t3:=tk x3 z3 y3
 have w1:x1∉(insI x0 a.u):=fun e=>by rcases (insI_mem _ _ _).1 e with e | e; exact n01 e.symm; exact u1 e
 have w2:x2∉(insI x1 (insI x0 a.u)):=fun e=>by
  rcases (insI_mem _ _ _).1 e with e | e
  ·exact n12 e.symm
  ·rcases (insI_mem _ _ _).1 e with e | e; exact n02 e.symm; exact u2 e
 have w3:x3∉(insI x2 (insI x1 (insI x0 a.u))):=fun e=>by
  rcases (insI_mem _ _ _).1 e with e | e
  ·exact n23 e.symm
  ·rcases (insI_mem _ _ _).1 e with e | e
   ·exact n13 e.symm
   ·rcases (insI_mem _ _ _).1 e with e | e; exact n03 e.symm; exact u3 e
 have m0:x0∈(insI x3 (insI x2 (insI x1 (insI x0 a.u)))):=(insI_mem _ _ _).2 (.inr ((insI_mem _ _ _).2 (.inr ((insI_mem _ _ _).2 (.inr ((insI_mem _ _ _).2 (.inl rfl)))))))
 have l1:(insI x0 a.u).length=a.u.length+1:=insI_len _ _
 have l2:(insI x1 (insI x0 a.u)).length=a.u.length+2:=by rw [insI_len,l1]
 have l3:(insI x2 (insI x1 (insI x0 a.u))).length=a.u.length+3:=by rw [insI_len,l2]
 have l4:(insI x3 (insI x2 (insI x1 (insI x0 a.u)))).length=a.u.length+4:=by rw [insI_len,l3]
 have ne2:keq a.k q=false:=by
  rw [Bool.eq_false_iff]
  intro e
  have e2:keq q a.k=true:=by
   unfold keq at e ⊢
   simp only [Bool.and_eq_true,beq_iff_eq] at e ⊢
   exact ⟨e.1.symm,e.2.1.symm,e.2.2.1.symm,e.2.2.2.1.symm,e.2.2.2.2.1.symm,e.2.2.2.2.2.1.symm,e.2.2.2.2.2.2.1.symm,e.2.2.2.2.2.2.2.1.symm,trivial⟩
  rw [e2] at hne
  cases hne
 have vT:∀ {B D:Int} {k p:Ky} {c:Bool} {U:List Int} {n:Int},va (⟨B,D,a.s,a.e,k,p,c,U⟩:Ac) c n (1+IntKind.wrap .i64 am) (sealK k (o4 n++o4 (1+IntKind.wrap .i64 am)))=true:=by
  intro B D k p c U n
  unfold va
  rw [keq_self]; rfl
 have vN:∀ {B D:Int} {k p:Ky} {U:List Int} {n:Int},va (⟨B,D,a.s,a.e,k,p,true,U⟩:Ac) true n (1+IntKind.wrap .i64 am) (sealK p (o4 n++o4 (1+IntKind.wrap .i64 am)))=true:=by
  intro B D k p U n
  unfold va
  rw [keq_self,Bool.true_and,Bool.or_true]
 have vF:∀ {B D:Int} {k c36_2 p:Ky} {U:List Int} {n:Int},k.ok→c36_2.ok→keq c36_2 k=false→va (⟨B,D,a.s,a.e,k,p,false,U⟩:Ac) false n (1+IntKind.wrap .i64 am) (sealK c36_2 (o4 n++o4 (1+IntKind.wrap .i64 am)))=false:=by
  intro B D k c36_2 p U n h1 h2 h
  unfold va
  rw [seal_ne h2 h1 h]; rfl
 have A0:ckA (⟨a.b,a.d,a.s,a.e,a.k,a.n,false,a.u⟩:Ac) false=0:=hA
 obtain ⟨B1,D1,c28_g1,A1,b1,b1'⟩:=cr_good (a:=a) (B:=a.b) (D:=a.d) (U:=a.u) hk hp A0 t0 vT u0 (by omega) (by omega)
 have c28_f1:=cr_bad (a:=a) (B:=a.b) (D:=a.d) (U:=a.u) (n:=x0) hk hp A0 t0 (by omega) (vF hk hq hne)
 have A2:ckA (⟨B1,D1,a.s,a.e,a.k,q,true,(insI x0 a.u)⟩:Ac) true=0:=ckA_keys A1 rfl
 obtain ⟨B2,D2,c28_g2,A3,b2,b2'⟩:=cr_good (q:=(sealK a.k (o4 x1++o4 (1+IntKind.wrap .i64 am)))) hk hq A2 t1 vT w1 (by omega) (by omega)
 obtain ⟨B3,D3,c28_g3,A4,b3,b3'⟩:=cr_good (q:=(sealK q (o4 x2++o4 (1+IntKind.wrap .i64 am)))) hk hq A3 t2 vN w2 (by omega) (by omega)
 have A5:ckA (⟨B3,D3,a.s,a.e,q,(⟨0,0,0,0,0,0,0,0⟩:Ky),false,(insI x2 (insI x1 (insI x0 a.u)))⟩:Ac) false=0:=ckA_keys A4 (by decide)
 have c28_f5:=cr_bad (n:=x3) hq hZk A5 t3 (by omega) (vF hq hk ne2)
 obtain ⟨B4,D4,c28_g4,A6,b4,b4'⟩:=cr_good (q:=(sealK q (o4 x3++o4 (1+IntKind.wrap .i64 am)))) hq hZk A5 t3 vT w3 (by omega) (by omega)
 have c28_f6:=cr_twice (n:=x0) (q:=(sealK q (o4 x0++o4 (1+IntKind.wrap .i64 am)))) hq hZk A6 t0 (by omega) vT m0
 obtain ⟨_,e0,e1⟩:=ckA_b A6
 have e0:0≤a.e:=e0
 have e1:a.e≤100000000:=e1
 have A7:ckA (⟨B4 - IntKind.wrap .i64 am,D4,a.s,a.e,q,(⟨0,0,0,0,0,0,0,0⟩:Ky),false,(insI x3 (insI x2 (insI x1 (insI x0 a.u))))⟩:Ac) false=0:=ckA_bal A6 (by omega) (by omega)
 have c69_0:CallDet Tryz.prog 69 [.d (.agg [.int .u8 a.k.a,.int .u8 a.k.b,.int .u8 a.k.c,.int .u8 a.k.d,.int .u8 a.k.e,.int .u8 a.k.f,.int .u8 a.k.g,.int .u8 a.k.h]),.d (.int .i64 0),.cp [.slice 1 (ints [x0,x1,x2,x3])] 0,.cp [.int .u16 am] 0] [.agg [.int .i64 x0,.int .i64 (1+IntKind.wrap .i64 am),.int .u8 (sealK a.k (o4 x0++o4 (1+IntKind.wrap .i64 am))).a,.int .u8 (sealK a.k (o4 x0++o4 (1+IntKind.wrap .i64 am))).b,.int .u8 (sealK a.k (o4 x0++o4 (1+IntKind.wrap .i64 am))).c,.int .u8 (sealK a.k (o4 x0++o4 (1+IntKind.wrap .i64 am))).d,.int .u8 (sealK a.k (o4 x0++o4 (1+IntKind.wrap .i64 am))).e,.int .u8 (sealK a.k (o4 x0++o4 (1+IntKind.wrap .i64 am))).f,.int .u8 (sealK a.k (o4 x0++o4 (1+IntKind.wrap .i64 am))).g,.int .u8 (sealK a.k (o4 x0++o4 (1+IntKind.wrap .i64 am))).h]]:=c69 a.k [x0,x1,x2,x3] 0 x0 (1+IntKind.wrap .i64 am) am hk (by decide) rfl rfl hb t0
 have c69_1:CallDet Tryz.prog 69 [.d (.agg [.int .u8 q.a,.int .u8 q.b,.int .u8 q.c,.int .u8 q.d,.int .u8 q.e,.int .u8 q.f,.int .u8 q.g,.int .u8 q.h]),.d (.int .i64 0),.cp [.slice 1 (ints [x0,x1,x2,x3])] 0,.cp [.int .u16 am] 0] [.agg [.int .i64 x0,.int .i64 (1+IntKind.wrap .i64 am),.int .u8 (sealK q (o4 x0++o4 (1+IntKind.wrap .i64 am))).a,.int .u8 (sealK q (o4 x0++o4 (1+IntKind.wrap .i64 am))).b,.int .u8 (sealK q (o4 x0++o4 (1+IntKind.wrap .i64 am))).c,.int .u8 (sealK q (o4 x0++o4 (1+IntKind.wrap .i64 am))).d,.int .u8 (sealK q (o4 x0++o4 (1+IntKind.wrap .i64 am))).e,.int .u8 (sealK q (o4 x0++o4 (1+IntKind.wrap .i64 am))).f,.int .u8 (sealK q (o4 x0++o4 (1+IntKind.wrap .i64 am))).g,.int .u8 (sealK q (o4 x0++o4 (1+IntKind.wrap .i64 am))).h]]:=c69 q [x0,x1,x2,x3] 0 x0 (1+IntKind.wrap .i64 am) am hq (by decide) rfl rfl hb t0
 have c69_2:CallDet Tryz.prog 69 [.d (.agg [.int .u8 a.k.a,.int .u8 a.k.b,.int .u8 a.k.c,.int .u8 a.k.d,.int .u8 a.k.e,.int .u8 a.k.f,.int .u8 a.k.g,.int .u8 a.k.h]),.d (.int .i64 1),.cp [.slice 1 (ints [x0,x1,x2,x3])] 0,.cp [.int .u16 am] 0] [.agg [.int .i64 x1,.int .i64 (1+IntKind.wrap .i64 am),.int .u8 (sealK a.k (o4 x1++o4 (1+IntKind.wrap .i64 am))).a,.int .u8 (sealK a.k (o4 x1++o4 (1+IntKind.wrap .i64 am))).b,.int .u8 (sealK a.k (o4 x1++o4 (1+IntKind.wrap .i64 am))).c,.int .u8 (sealK a.k (o4 x1++o4 (1+IntKind.wrap .i64 am))).d,.int .u8 (sealK a.k (o4 x1++o4 (1+IntKind.wrap .i64 am))).e,.int .u8 (sealK a.k (o4 x1++o4 (1+IntKind.wrap .i64 am))).f,.int .u8 (sealK a.k (o4 x1++o4 (1+IntKind.wrap .i64 am))).g,.int .u8 (sealK a.k (o4 x1++o4 (1+IntKind.wrap .i64 am))).h]]:=c69 a.k [x0,x1,x2,x3] 1 x1 (1+IntKind.wrap .i64 am) am hk (by decide) rfl rfl hb t1
 have c69_3:CallDet Tryz.prog 69 [.d (.agg [.int .u8 q.a,.int .u8 q.b,.int .u8 q.c,.int .u8 q.d,.int .u8 q.e,.int .u8 q.f,.int .u8 q.g,.int .u8 q.h]),.d (.int .i64 2),.cp [.slice 1 (ints [x0,x1,x2,x3])] 0,.cp [.int .u16 am] 0] [.agg [.int .i64 x2,.int .i64 (1+IntKind.wrap .i64 am),.int .u8 (sealK q (o4 x2++o4 (1+IntKind.wrap .i64 am))).a,.int .u8 (sealK q (o4 x2++o4 (1+IntKind.wrap .i64 am))).b,.int .u8 (sealK q (o4 x2++o4 (1+IntKind.wrap .i64 am))).c,.int .u8 (sealK q (o4 x2++o4 (1+IntKind.wrap .i64 am))).d,.int .u8 (sealK q (o4 x2++o4 (1+IntKind.wrap .i64 am))).e,.int .u8 (sealK q (o4 x2++o4 (1+IntKind.wrap .i64 am))).f,.int .u8 (sealK q (o4 x2++o4 (1+IntKind.wrap .i64 am))).g,.int .u8 (sealK q (o4 x2++o4 (1+IntKind.wrap .i64 am))).h]]:=c69 q [x0,x1,x2,x3] 2 x2 (1+IntKind.wrap .i64 am) am hq (by decide) rfl rfl hb t2
 have c69_4:CallDet Tryz.prog 69 [.d (.agg [.int .u8 a.k.a,.int .u8 a.k.b,.int .u8 a.k.c,.int .u8 a.k.d,.int .u8 a.k.e,.int .u8 a.k.f,.int .u8 a.k.g,.int .u8 a.k.h]),.d (.int .i64 3),.cp [.slice 1 (ints [x0,x1,x2,x3])] 0,.cp [.int .u16 am] 0] [.agg [.int .i64 x3,.int .i64 (1+IntKind.wrap .i64 am),.int .u8 (sealK a.k (o4 x3++o4 (1+IntKind.wrap .i64 am))).a,.int .u8 (sealK a.k (o4 x3++o4 (1+IntKind.wrap .i64 am))).b,.int .u8 (sealK a.k (o4 x3++o4 (1+IntKind.wrap .i64 am))).c,.int .u8 (sealK a.k (o4 x3++o4 (1+IntKind.wrap .i64 am))).d,.int .u8 (sealK a.k (o4 x3++o4 (1+IntKind.wrap .i64 am))).e,.int .u8 (sealK a.k (o4 x3++o4 (1+IntKind.wrap .i64 am))).f,.int .u8 (sealK a.k (o4 x3++o4 (1+IntKind.wrap .i64 am))).g,.int .u8 (sealK a.k (o4 x3++o4 (1+IntKind.wrap .i64 am))).h]]:=c69 a.k [x0,x1,x2,x3] 3 x3 (1+IntKind.wrap .i64 am) am hk (by decide) rfl rfl hb t3
 have c69_5:CallDet Tryz.prog 69 [.d (.agg [.int .u8 q.a,.int .u8 q.b,.int .u8 q.c,.int .u8 q.d,.int .u8 q.e,.int .u8 q.f,.int .u8 q.g,.int .u8 q.h]),.d (.int .i64 3),.cp [.slice 1 (ints [x0,x1,x2,x3])] 0,.cp [.int .u16 am] 0] [.agg [.int .i64 x3,.int .i64 (1+IntKind.wrap .i64 am),.int .u8 (sealK q (o4 x3++o4 (1+IntKind.wrap .i64 am))).a,.int .u8 (sealK q (o4 x3++o4 (1+IntKind.wrap .i64 am))).b,.int .u8 (sealK q (o4 x3++o4 (1+IntKind.wrap .i64 am))).c,.int .u8 (sealK q (o4 x3++o4 (1+IntKind.wrap .i64 am))).d,.int .u8 (sealK q (o4 x3++o4 (1+IntKind.wrap .i64 am))).e,.int .u8 (sealK q (o4 x3++o4 (1+IntKind.wrap .i64 am))).f,.int .u8 (sealK q (o4 x3++o4 (1+IntKind.wrap .i64 am))).g,.int .u8 (sealK q (o4 x3++o4 (1+IntKind.wrap .i64 am))).h]]:=c69 q [x0,x1,x2,x3] 3 x3 (1+IntKind.wrap .i64 am) am hq (by decide) rfl rfl hb t3
 have c17_0:=c17 (⟨a.b,a.d,a.s,a.e,a.k,a.n,false,a.u⟩:Ac) false (by show a.u.length≤_; omega)
 have c36_1:CallDet Tryz.prog 36 [.d (.agg [.int .i64 (B1),.int .i64 (D1),.int .i64 a.s,.int .i64 a.e,.int .u8 a.k.a,.int .u8 a.k.b,.int .u8 a.k.c,.int .u8 a.k.d,.int .u8 a.k.e,.int .u8 a.k.f,.int .u8 a.k.g,.int .u8 a.k.h,.int .u8 a.n.a,.int .u8 a.n.b,.int .u8 a.n.c,.int .u8 a.n.d,.int .u8 a.n.e,.int .u8 a.n.f,.int .u8 a.n.g,.int .u8 a.n.h,.bool false,.slice 1 (ints ((insI x0 a.u)))]),.d (.agg [.int .u8 q.a,.int .u8 q.b,.int .u8 q.c,.int .u8 q.d,.int .u8 q.e,.int .u8 q.f,.int .u8 q.g,.int .u8 q.h])] [.agg [.int .i64 (B1),.int .i64 (D1),.int .i64 a.s,.int .i64 a.e,.int .u8 a.k.a,.int .u8 a.k.b,.int .u8 a.k.c,.int .u8 a.k.d,.int .u8 a.k.e,.int .u8 a.k.f,.int .u8 a.k.g,.int .u8 a.k.h,.int .u8 q.a,.int .u8 q.b,.int .u8 q.c,.int .u8 q.d,.int .u8 q.e,.int .u8 q.f,.int .u8 q.g,.int .u8 q.h,.bool true,.slice 1 (ints ((insI x0 a.u)))],.int .i64 0]:=by
  have x:=c36 (⟨B1,D1,a.s,a.e,a.k,a.n,false,(insI x0 a.u)⟩:Ac) false q (by show (insI x0 a.u).length≤_; omega)
  rw [show bgE (⟨B1,D1,a.s,a.e,a.k,a.n,false,(insI x0 a.u)⟩:Ac) false q=0 by unfold bgE; rw [A1,show keq q (⟨B1,D1,a.s,a.e,a.k,a.n,false,(insI x0 a.u)⟩:Ac).k=false from hne]; rfl] at x
  exact x
 have c36_2:CallDet Tryz.prog 36 [.d (.agg [.int .i64 (B3),.int .i64 (D3),.int .i64 a.s,.int .i64 a.e,.int .u8 a.k.a,.int .u8 a.k.b,.int .u8 a.k.c,.int .u8 a.k.d,.int .u8 a.k.e,.int .u8 a.k.f,.int .u8 a.k.g,.int .u8 a.k.h,.int .u8 q.a,.int .u8 q.b,.int .u8 q.c,.int .u8 q.d,.int .u8 q.e,.int .u8 q.f,.int .u8 q.g,.int .u8 q.h,.bool true,.slice 1 (ints ((insI x2 (insI x1 (insI x0 a.u)))))]),.d (.agg [.int .u8 0,.int .u8 0,.int .u8 0,.int .u8 0,.int .u8 0,.int .u8 0,.int .u8 0,.int .u8 0])] [.agg [.int .i64 0,.int .i64 0,.int .i64 0,.int .i64 0,.int .u8 0,.int .u8 0,.int .u8 0,.int .u8 0,.int .u8 0,.int .u8 0,.int .u8 0,.int .u8 0,.int .u8 0,.int .u8 0,.int .u8 0,.int .u8 0,.int .u8 0,.int .u8 0,.int .u8 0,.int .u8 0,.bool false,.slice 1 []],.int .i64 22]:=by
  have x:=c36 (⟨B3,D3,a.s,a.e,a.k,q,true,(insI x2 (insI x1 (insI x0 a.u)))⟩:Ac) true (⟨0,0,0,0,0,0,0,0⟩:Ky) (by show (insI x2 (insI x1 (insI x0 a.u))).length≤_; omega)
  rw [show bgE (⟨B3,D3,a.s,a.e,a.k,q,true,(insI x2 (insI x1 (insI x0 a.u)))⟩:Ac) true (⟨0,0,0,0,0,0,0,0⟩:Ky)=22 by unfold bgE; rw [A4]; rfl] at x
  exact x
 have c37_3:CallDet Tryz.prog 37 [.d (.agg [.int .i64 (B3),.int .i64 (D3),.int .i64 a.s,.int .i64 a.e,.int .u8 a.k.a,.int .u8 a.k.b,.int .u8 a.k.c,.int .u8 a.k.d,.int .u8 a.k.e,.int .u8 a.k.f,.int .u8 a.k.g,.int .u8 a.k.h,.int .u8 q.a,.int .u8 q.b,.int .u8 q.c,.int .u8 q.d,.int .u8 q.e,.int .u8 q.f,.int .u8 q.g,.int .u8 q.h,.bool true,.slice 1 (ints ((insI x2 (insI x1 (insI x0 a.u)))))])] [.agg [.int .i64 (B3),.int .i64 (D3),.int .i64 a.s,.int .i64 a.e,.int .u8 q.a,.int .u8 q.b,.int .u8 q.c,.int .u8 q.d,.int .u8 q.e,.int .u8 q.f,.int .u8 q.g,.int .u8 q.h,.int .u8 0,.int .u8 0,.int .u8 0,.int .u8 0,.int .u8 0,.int .u8 0,.int .u8 0,.int .u8 0,.bool false,.slice 1 (ints ((insI x2 (insI x1 (insI x0 a.u)))))],.int .i64 0]:=by
  have x:=c37 (⟨B3,D3,a.s,a.e,a.k,q,true,(insI x2 (insI x1 (insI x0 a.u)))⟩:Ac) true (by show (insI x2 (insI x1 (insI x0 a.u))).length≤_; omega)
  rw [show fiE (⟨B3,D3,a.s,a.e,a.k,q,true,(insI x2 (insI x1 (insI x0 a.u)))⟩:Ac) true=0 by unfold fiE; rw [A4]; rfl] at x
  exact x
 have c37_4:CallDet Tryz.prog 37 [.d (.agg [.int .i64 (B3),.int .i64 (D3),.int .i64 a.s,.int .i64 a.e,.int .u8 q.a,.int .u8 q.b,.int .u8 q.c,.int .u8 q.d,.int .u8 q.e,.int .u8 q.f,.int .u8 q.g,.int .u8 q.h,.int .u8 0,.int .u8 0,.int .u8 0,.int .u8 0,.int .u8 0,.int .u8 0,.int .u8 0,.int .u8 0,.bool false,.slice 1 (ints ((insI x2 (insI x1 (insI x0 a.u)))))])] [.agg [.int .i64 0,.int .i64 0,.int .i64 0,.int .i64 0,.int .u8 0,.int .u8 0,.int .u8 0,.int .u8 0,.int .u8 0,.int .u8 0,.int .u8 0,.int .u8 0,.int .u8 0,.int .u8 0,.int .u8 0,.int .u8 0,.int .u8 0,.int .u8 0,.int .u8 0,.int .u8 0,.bool false,.slice 1 []],.int .i64 22]:=by
  have x:=c37 (⟨B3,D3,a.s,a.e,q,(⟨0,0,0,0,0,0,0,0⟩:Ky),false,(insI x2 (insI x1 (insI x0 a.u)))⟩:Ac) false (by show (insI x2 (insI x1 (insI x0 a.u))).length≤_; omega)
  rw [show fiE (⟨B3,D3,a.s,a.e,q,(⟨0,0,0,0,0,0,0,0⟩:Ky),false,(insI x2 (insI x1 (insI x0 a.u)))⟩:Ac) false=22 by unfold fiE; rw [A5]; rfl] at x
  exact x
 have c18_1:CallDet Tryz.prog 18 [.d (.agg [.int .i64 (B4),.int .i64 (D4),.int .i64 a.s,.int .i64 a.e,.int .u8 q.a,.int .u8 q.b,.int .u8 q.c,.int .u8 q.d,.int .u8 q.e,.int .u8 q.f,.int .u8 q.g,.int .u8 q.h,.int .u8 0,.int .u8 0,.int .u8 0,.int .u8 0,.int .u8 0,.int .u8 0,.int .u8 0,.int .u8 0,.bool false,.slice 1 (ints ((insI x3 (insI x2 (insI x1 (insI x0 a.u))))))])] [.int .i64 (B4+a.e),.int .i64 0]:=by
  have x:=c18 (⟨B4,D4,a.s,a.e,q,(⟨0,0,0,0,0,0,0,0⟩:Ky),false,(insI x3 (insI x2 (insI x1 (insI x0 a.u))))⟩:Ac) false (by show (insI x3 (insI x2 (insI x1 (insI x0 a.u)))).length≤_; omega)
  rw [A6] at x
  exact x
 have c16_2:CallDet Tryz.prog 16 [.d (.agg [.int .i64 (B4),.int .i64 (D4),.int .i64 a.s,.int .i64 a.e,.int .u8 q.a,.int .u8 q.b,.int .u8 q.c,.int .u8 q.d,.int .u8 q.e,.int .u8 q.f,.int .u8 q.g,.int .u8 q.h,.int .u8 0,.int .u8 0,.int .u8 0,.int .u8 0,.int .u8 0,.int .u8 0,.int .u8 0,.int .u8 0,.bool false,.slice 1 (ints ((insI x3 (insI x2 (insI x1 (insI x0 a.u))))))]),.d (.int .i64 (IntKind.wrap .i64 am))] [.agg [.int .i64 (B4 - IntKind.wrap .i64 am),.int .i64 (D4),.int .i64 a.s,.int .i64 a.e,.int .u8 q.a,.int .u8 q.b,.int .u8 q.c,.int .u8 q.d,.int .u8 q.e,.int .u8 q.f,.int .u8 q.g,.int .u8 q.h,.int .u8 0,.int .u8 0,.int .u8 0,.int .u8 0,.int .u8 0,.int .u8 0,.int .u8 0,.int .u8 0,.bool false,.slice 1 (ints ((insI x3 (insI x2 (insI x1 (insI x0 a.u))))))],.int .i64 0]:=by
  have x:=c16 (⟨B4,D4,a.s,a.e,q,(⟨0,0,0,0,0,0,0,0⟩:Ky),false,(insI x3 (insI x2 (insI x1 (insI x0 a.u))))⟩:Ac) false (IntKind.wrap .i64 am) (by show (insI x3 (insI x2 (insI x1 (insI x0 a.u)))).length≤_; omega)
  rw [show spE (⟨B4,D4,a.s,a.e,q,(⟨0,0,0,0,0,0,0,0⟩:Ky),false,(insI x3 (insI x2 (insI x1 (insI x0 a.u))))⟩:Ac) false (IntKind.wrap .i64 am)=0 by unfold spE; rw [A6,wi_in (by omega) (by omega)]; show firstOf [0,0,bif decide (B4 - IntKind.wrap .i64 am < -1000000000000) then 4 else 0]=0; rw [decide_eq_false (by omega)]; rfl] at x
  exact x
 have c18_3:CallDet Tryz.prog 18 [.d (.agg [.int .i64 (B4 - IntKind.wrap .i64 am),.int .i64 (D4),.int .i64 a.s,.int .i64 a.e,.int .u8 q.a,.int .u8 q.b,.int .u8 q.c,.int .u8 q.d,.int .u8 q.e,.int .u8 q.f,.int .u8 q.g,.int .u8 q.h,.int .u8 0,.int .u8 0,.int .u8 0,.int .u8 0,.int .u8 0,.int .u8 0,.int .u8 0,.int .u8 0,.bool false,.slice 1 (ints ((insI x3 (insI x2 (insI x1 (insI x0 a.u))))))])] [.int .i64 (B4 - IntKind.wrap .i64 am+a.e),.int .i64 0]:=by
  have x:=c18 (⟨B4 - IntKind.wrap .i64 am,D4,a.s,a.e,q,(⟨0,0,0,0,0,0,0,0⟩:Ky),false,(insI x3 (insI x2 (insI x1 (insI x0 a.u))))⟩:Ac) false (by show (insI x3 (insI x2 (insI x1 (insI x0 a.u)))).length≤_; omega)
  rw [A7] at x
  exact x
 have c19_4:CallDet Tryz.prog 19 [.d (.agg [.int .i64 (B4 - IntKind.wrap .i64 am),.int .i64 (D4),.int .i64 a.s,.int .i64 a.e,.int .u8 q.a,.int .u8 q.b,.int .u8 q.c,.int .u8 q.d,.int .u8 q.e,.int .u8 q.f,.int .u8 q.g,.int .u8 q.h,.int .u8 0,.int .u8 0,.int .u8 0,.int .u8 0,.int .u8 0,.int .u8 0,.int .u8 0,.int .u8 0,.bool false,.slice 1 (ints ((insI x3 (insI x2 (insI x1 (insI x0 a.u))))))])] [.bool (decide (B4 - IntKind.wrap .i64 am+a.e < 0)),.int .i64 0]:=by
  have x:=c19 (⟨B4 - IntKind.wrap .i64 am,D4,a.s,a.e,q,(⟨0,0,0,0,0,0,0,0⟩:Ky),false,(insI x3 (insI x2 (insI x1 (insI x0 a.u))))⟩:Ac) false (by show (insI x3 (insI x2 (insI x1 (insI x0 a.u)))).length≤_; omega)
  rw [A7] at x
  exact x
 have il:∀ l:List Int,(ints l).length=l.length:=fun l=>List.length_map _
 have h4:(ints (insI x3 (insI x2 (insI x1 (insI x0 a.u))))).length=a.u.length+4:=by rw [il,l4]
 have h0:(ints a.u).length=a.u.length:=il _
 clear hA A0 A1 A2 A3 A4 A5 A6 A7 vT vF vN tk u0 u1 u2 u3 w1 w2 w3 m0
 unfold rest9
 refine ca c17_0 ?_
 refine ca c69_0 ?_
 refine ca c28_g1 ?_
 refine ca c17_0 ?_
 refine ca c69_1 ?_
 refine ca c28_f1 ?_
 refine ca c36_1 ?_
 refine ca c69_2 ?_
 refine ca c28_g2 ?_
 refine ca c69_3 ?_
 refine ca c28_g3 ?_
 refine ca c36_2 ?_
 refine ca c37_3 ?_
 refine ca c69_4 ?_
 refine ca c28_f5 ?_
 refine ca c69_5 ?_
 refine ca c28_g4 ?_
 refine ca c69_1 ?_
 refine ca c28_f6 ?_
 refine ca c37_4 ?_
 refine ar_add ?_ ?_
 refine an ?_ ?_
 (show (-9223372036854775808:Int)≤(0:Int)+(0:Int); omega)
 (show (0:Int)+(0:Int)≤(9223372036854775807:Int); omega)
 refine ar_add ?_ ?_
 refine an ?_ ?_
 (show (-9223372036854775808:Int)≤(0:Int)+(0:Int)+(0:Int); omega)
 (show (0:Int)+(0:Int)+(0:Int)≤(9223372036854775807:Int); omega)
 refine ar_add ?_ ?_
 refine an ?_ ?_
 (show (-9223372036854775808:Int)≤(0:Int)+(0:Int)+(0:Int)+(0:Int); omega)
 (show (0:Int)+(0:Int)+(0:Int)+(0:Int)≤(9223372036854775807:Int); omega)
 refine ar_add ?_ ?_
 refine an ?_ ?_
 (show (-9223372036854775808:Int)≤(0:Int)+(0:Int)+(0:Int)+(0:Int)+(0:Int); omega)
 (show (0:Int)+(0:Int)+(0:Int)+(0:Int)+(0:Int)≤(9223372036854775807:Int); omega)
 refine ar_add ?_ ?_
 refine an ?_ ?_
 (show (-9223372036854775808:Int)≤(0:Int)+(0:Int)+(0:Int)+(0:Int)+(0:Int)+(0:Int); omega)
 (show (0:Int)+(0:Int)+(0:Int)+(0:Int)+(0:Int)+(0:Int)≤(9223372036854775807:Int); omega)
 refine sd ?_
 refine sd ?_
 refine sd ?_
 refine sd ?_
 refine sd ?_
 refine sd ?_
 refine ca (Exists.intro _ (And.intro rfl rfl)) ?_
 refine b_intro (fun t4=>?_) (fun t4=>?_)
 replace t4:(!(Ky.a q==Ky.a q&&(Ky.b q==Ky.b q&&(Ky.c q==Ky.c q&&(Ky.d q==Ky.d q&&(Ky.e q==Ky.e q&&(Ky.f q==Ky.f q&&(Ky.g q==Ky.g q&&(Ky.h q==Ky.h q&&true)))))))))=true:=t4
 refine sd ?_
 refine sd ?_
 rotate_left
 replace t4:(!(Ky.a q==Ky.a q&&(Ky.b q==Ky.b q&&(Ky.c q==Ky.c q&&(Ky.d q==Ky.d q&&(Ky.e q==Ky.e q&&(Ky.f q==Ky.f q&&(Ky.g q==Ky.g q&&(Ky.h q==Ky.h q&&true)))))))))=false:=t4
 refine ar_add ?_ ?_
 refine an ?_ ?_
 (show (-9223372036854775808:Int)≤(↑(List.length (ints (Ac.u a))):Int)+(4:Int); omega)
 (show (↑(List.length (ints (Ac.u a))):Int)+(4:Int)≤(9223372036854775807:Int); omega)
 refine sd ?_
 refine b_ne (fun t5=>?_) (fun t5=>?_)
 (exfalso; omega)
 refine ca c18_1 ?_
 refine ca rfl ?_
 refine ca c16_2 ?_
 refine ca c18_3 ?_
 refine ca c19_4 ?_
 refine ar_add ?_ ?_
 refine an ?_ ?_
 (show (-9223372036854775808:Int)≤(0:Int)+(0:Int); omega)
 (show (0:Int)+(0:Int)≤(9223372036854775807:Int); omega)
 refine ar_add ?_ ?_
 refine an ?_ ?_
 (show (-9223372036854775808:Int)≤(0:Int)+(0:Int)+(0:Int); omega)
 (show (0:Int)+(0:Int)+(0:Int)≤(9223372036854775807:Int); omega)
 refine ar_add ?_ ?_
 refine an ?_ ?_
 (show (-9223372036854775808:Int)≤(0:Int)+(0:Int)+(0:Int)+(0:Int); omega)
 (show (0:Int)+(0:Int)+(0:Int)+(0:Int)≤(9223372036854775807:Int); omega)
 refine sd ?_
 refine ca rfl ?_
 refine ar_sub ?_ ?_
 refine an ?_ ?_
 (show (-9223372036854775808:Int)≤B4+Ac.e a - IntKind.wrap IntKind.i64 am; omega)
 (show B4+Ac.e a - IntKind.wrap IntKind.i64 am≤(9223372036854775807:Int); omega)
 refine sd ?_
 refine b_eq (fun t6=>?_) (fun t6=>?_)
 refine sd ?_
 refine b_intro (fun t7=>?_) (fun t7=>?_)
 replace t7:(decide (B4 - IntKind.wrap IntKind.i64 am+Ac.e a < (0:Int))==decide (B4 - IntKind.wrap IntKind.i64 am+Ac.e a < (0:Int)))=true:=t7
 refine ca (c15) ?_
 rotate_left
 replace t7:(decide (B4 - IntKind.wrap IntKind.i64 am+Ac.e a < (0:Int))==decide (B4 - IntKind.wrap IntKind.i64 am+Ac.e a < (0:Int)))=false:=t7
 refine sd ?_
 rotate_left
 (exfalso; omega)
 all_goals first | (refine hR _ ?_; exact rfl) | (simp at t4; done) | (simp at t7; done)
theorem four:∀ {R:List Int},R.length=4→∃ x0 x1 x2 x3,R=[x0,x1,x2,x3]
 | [x0,x1,x2,x3],_=>⟨x0,x1,x2,x3,rfl⟩
theorem c9 (a:Ac) (c:Bool) (q:Ky) (am:Int) (hla:a.u.length≤1048576) (hk:a.k.ok) (hp:a.n.ok) (hq:q.ok) (hb:0≤am∧am≤65535):CallDet Tryz.prog 9 [.d (.agg [.int .i64 (a.b),.int .i64 (a.d),.int .i64 a.s,.int .i64 a.e,.int .u8 a.k.a,.int .u8 a.k.b,.int .u8 a.k.c,.int .u8 a.k.d,.int .u8 a.k.e,.int .u8 a.k.f,.int .u8 a.k.g,.int .u8 a.k.h,.int .u8 a.n.a,.int .u8 a.n.b,.int .u8 a.n.c,.int .u8 a.n.d,.int .u8 a.n.e,.int .u8 a.n.f,.int .u8 a.n.g,.int .u8 a.n.h,.bool c,.slice 1 (ints a.u)]),.d (.agg [.int .u8 q.a,.int .u8 q.b,.int .u8 q.c,.int .u8 q.d,.int .u8 q.e,.int .u8 q.f,.int .u8 q.g,.int .u8 q.h]),.d (.int .u16 am)] [.bool true]:=by
 have c20_:=c20 a c hla
 have hlen:(ints a.u).length=a.u.length:=List.length_map _
 by_cases hA:ckA a c=0
 ·obtain ⟨hasc,hpos⟩:=ckA_asc hA
  rw [hA] at c20_
  cases c with
  | true =>
   refine call_of_vc (x:=jr9b) (by kernel_rfl) rfl ?_
   refine sd ?_
   refine b_lt (fun t1=>?_) (fun t1=>?_)
   refine sd ?_
   refine sd ?_
   refine sd ?_
   refine sd ?_
   refine sd ?_
   refine ca (c15) ?_
   exact rfl
   refine ca c20_ ?_
   refine sd ?_
   refine sd ?_
   refine sd ?_
   refine sd ?_
   refine ca (c15) ?_
   exact rfl
  | false =>
   refine call_of_vc (x:=jr9b) (by kernel_rfl) rfl ?_
   refine sd ?_
   refine b_lt (fun t1=>?_) (fun t1=>?_)
   refine sd ?_
   refine sd ?_
   refine sd ?_
   refine sd ?_
   refine sd ?_
   refine ca (c15) ?_
   exact rfl
   refine ca c20_ ?_
   refine sd ?_
   refine ca (Exists.intro _ (And.intro rfl rfl)) ?_
   refine b_intro (fun t2=>?_) (fun t2=>?_)
   replace t2:(Ky.a q==Ky.a (Ac.k a)&&(Ky.b q==Ky.b (Ac.k a)&&(Ky.c q==Ky.c (Ac.k a)&&(Ky.d q==Ky.d (Ac.k a)&&(Ky.e q==Ky.e (Ac.k a)&&(Ky.f q==Ky.f (Ac.k a)&&(Ky.g q==Ky.g (Ac.k a)&&(Ky.h q==Ky.h (Ac.k a)&&true))))))))=true:=t2
   refine sd ?_
   refine sd ?_
   refine ca (c15) ?_
   exact rfl
   replace t2:(Ky.a q==Ky.a (Ac.k a)&&(Ky.b q==Ky.b (Ac.k a)&&(Ky.c q==Ky.c (Ac.k a)&&(Ky.d q==Ky.d (Ac.k a)&&(Ky.e q==Ky.e (Ac.k a)&&(Ky.f q==Ky.f (Ac.k a)&&(Ky.g q==Ky.g (Ac.k a)&&(Ky.h q==Ky.h (Ac.k a)&&true))))))))=false:=t2
   refine sd ?_
   refine b_lt (fun t3=>?_) (fun t3=>?_)
   refine sd ?_
   refine ca (c15) ?_
   exact rfl
   refine sd ?_
   refine b_lt (fun t4=>?_) (fun t4=>?_)
   refine ca (c15) ?_
   exact rfl
   refine an ?_ ?_
   refine an ?_ ?_
   (show (4:Nat) * (8:Nat)≤(2:Nat) ^ (47:Nat); omega)
   (show (4:Nat)≤(2:Nat) ^ (47:Nat); omega)
   refine sd ?_
   rotate_left
   refine v9 hasc (fun x h=>(hpos x h).1) (by omega) (fun R x e hnd hz y=>?_)
   obtain ⟨x0,x1,x2,x3,rfl⟩:=four e
   rotate_left
   refine w9 hA hk hp hq (by omega) (by unfold keq; assumption) hb (by omega) hnd hz (fun st h=>h)
 ·refine call_of_vc (x:=jr9b) (by kernel_rfl) rfl ?_
  refine sd ?_
  refine b_lt (fun t1=>?_) (fun t1=>?_)
  refine sd ?_
  refine sd ?_
  refine sd ?_
  refine sd ?_
  refine sd ?_
  refine ca (c15) ?_
  exact rfl
  refine ca c20_ ?_
  refine sd ?_
  refine b_ne (fun t2=>?_) (fun t2=>?_)
  refine sd ?_
  refine sd ?_
  refine sd ?_
  refine sd ?_
  refine ca (c15) ?_
  exact rfl
  (exfalso; omega)
end Vc
