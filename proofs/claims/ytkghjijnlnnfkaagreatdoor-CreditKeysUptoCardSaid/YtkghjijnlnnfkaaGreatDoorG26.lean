import Derived.Test.YtkghjijnlnnfkaaGreatDoorG25
import Derived.Test.YtkghjijnlnnfkaaGreatDoorG21
set_option linter.unusedSectionVars false
set_option linter.unusedVariables false
set_option linter.unusedSimpArgs false
set_option maxRecDepth 10000
set_option maxHeartbeats 4000000
namespace Vc
open Go Go.Proofs
def jr5:AFun:=⟨148,13,[.tmp 6],
 (.seq
 (.reg [0,1,2] [⟨some 3,.cbx 0 22 (.tmp 0),none⟩,
  ⟨some 4,.cbx 1 24 (.tmp 1),none⟩,
  ⟨some 5,.cbx 2 10 (.tmp 2),none⟩,
  ⟨some 6,.mov (.cst (.d (.bool false))),none⟩])
 (.seq
  (.seq
  (.reg [] [⟨some 27,.ld true 22 (.tmp 3),none⟩,
   ⟨some 28,.call 14 [(.tmp 27)],none⟩,
   ⟨some 29,.not (.tmp 28),none⟩])
  (.cond (.tmp 29)
   (.seq
   (.reg [] [⟨some 30,.call 15 [],none⟩,
    ⟨some 6,.mov (.tmp 30),none⟩])
   .ret)
   .skip))
  (.seq
  (.regd [3] [⟨some 32,.ld true 22 (.tmp 3),none⟩,
   ⟨some 33,.call 17 [(.tmp 32)],none⟩,
   ⟨some 34,.fad 0 (.tmp 4),none⟩,
   ⟨some 35,.ld true 8 (.tmp 34),none⟩,
   ⟨some 36,.call 36 [(.tmp 33),(.tmp 35)],none⟩,
   ⟨some 31,.mov (.tmp 36),none⟩,
   ⟨some 37,.ext 0 (.tmp 31),none⟩,
   ⟨some 38,.ext 1 (.tmp 31),none⟩,
   ⟨some 7,.alloc 3 [(.d (.int .i64 0)),(.d (.int .i64 0)),(.d (.int .i64 0)),(.d (.int .i64 0)),(.d (.int .u8 0)),(.d (.int .u8 0)),(.d (.int .u8 0)),(.d (.int .u8 0)),(.d (.int .u8 0)),(.d (.int .u8 0)),(.d (.int .u8 0)),(.d (.int .u8 0)),(.d (.int .u8 0)),(.d (.int .u8 0)),(.d (.int .u8 0)),(.d (.int .u8 0)),(.d (.int .u8 0)),(.d (.int .u8 0)),(.d (.int .u8 0)),(.d (.int .u8 0)),(.d (.bool false)),(.nils 1)],none⟩,
   ⟨none,.st 22 (.tmp 7) (.tmp 37),none⟩,
   ⟨some 8,.mov (.tmp 38),none⟩] [(0,2),(1,2),(0,3),(1,3),(6,7),(0,8),(1,8),(2,8),(3,8),(4,8),(5,8),(6,8),(7,8),(7,9)])
  (.seq
   (.reg [4] [⟨some 40,.ld true 22 (.tmp 3),none⟩,
    ⟨some 41,.call 17 [(.tmp 40)],none⟩,
    ⟨some 42,.call 37 [(.tmp 41)],none⟩,
    ⟨some 39,.mov (.tmp 42),none⟩,
    ⟨some 43,.ext 0 (.tmp 39),none⟩,
    ⟨some 44,.ext 1 (.tmp 39),none⟩,
    ⟨some 9,.alloc 4 [(.d (.int .i64 0)),(.d (.int .i64 0)),(.d (.int .i64 0)),(.d (.int .i64 0)),(.d (.int .u8 0)),(.d (.int .u8 0)),(.d (.int .u8 0)),(.d (.int .u8 0)),(.d (.int .u8 0)),(.d (.int .u8 0)),(.d (.int .u8 0)),(.d (.int .u8 0)),(.d (.int .u8 0)),(.d (.int .u8 0)),(.d (.int .u8 0)),(.d (.int .u8 0)),(.d (.int .u8 0)),(.d (.int .u8 0)),(.d (.int .u8 0)),(.d (.int .u8 0)),(.d (.bool false)),(.nils 1)],none⟩,
    ⟨none,.st 22 (.tmp 9) (.tmp 43),none⟩,
    ⟨some 10,.mov (.tmp 44),none⟩])
   (.seq
   (.reg [5] [⟨some 46,.fad 0 (.tmp 4),none⟩,
    ⟨some 47,.ld true 8 (.tmp 46),none⟩,
    ⟨some 48,.fad 0 (.tmp 5),none⟩,
    ⟨some 49,.ld false 1 (.tmp 48),none⟩,
    ⟨some 50,.fad 1 (.tmp 5),none⟩,
    ⟨some 51,.ld false 1 (.tmp 50),none⟩,
    ⟨some 52,.call 38 [(.tmp 47),(.tmp 49),(.tmp 51)],none⟩,
    ⟨some 45,.mov (.tmp 52),none⟩,
    ⟨some 53,.ext 0 (.tmp 45),none⟩,
    ⟨some 54,.ext 1 (.tmp 45),none⟩,
    ⟨some 11,.alloc 5 [(.d (.int .i64 0)),(.d (.int .i64 0)),(.d (.int .u8 0)),(.d (.int .u8 0)),(.d (.int .u8 0)),(.d (.int .u8 0)),(.d (.int .u8 0)),(.d (.int .u8 0)),(.d (.int .u8 0)),(.d (.int .u8 0))],none⟩,
    ⟨none,.st 10 (.tmp 11) (.tmp 53),none⟩,
    ⟨some 12,.mov (.tmp 54),none⟩])
   (.seq
    (.reg [6] [⟨some 56,.ld true 10 (.tmp 5),none⟩,
     ⟨some 57,.call 39 [(.tmp 56)],none⟩,
     ⟨some 55,.mov (.tmp 57),none⟩,
     ⟨some 58,.ext 0 (.tmp 55),none⟩,
     ⟨some 59,.ext 1 (.tmp 55),none⟩,
     ⟨some 13,.alloc 6 [(.d (.int .u8 0)),(.d (.int .u8 0)),(.d (.int .u8 0)),(.d (.int .u8 0)),(.d (.int .u8 0)),(.d (.int .u8 0)),(.d (.int .u8 0)),(.d (.int .u8 0)),(.d (.int .u8 0)),(.d (.int .u8 0)),(.d (.int .u8 0)),(.d (.int .u8 0)),(.d (.int .u8 0)),(.d (.int .u8 0)),(.d (.int .u8 0)),(.d (.int .u8 0))],none⟩,
     ⟨none,.st 16 (.tmp 13) (.tmp 58),none⟩,
     ⟨some 14,.mov (.tmp 59),none⟩])
    (.seq
    (.reg [7] [⟨some 61,.fad 8 (.tmp 4),none⟩,
     ⟨some 62,.ld true 16 (.tmp 61),none⟩,
     ⟨some 63,.call 40 [(.tmp 62)],none⟩,
     ⟨some 60,.mov (.tmp 63),none⟩,
     ⟨some 64,.ext 0 (.tmp 60),none⟩,
     ⟨some 65,.ext 1 (.tmp 60),none⟩,
     ⟨some 15,.alloc 7 [(.d (.int .i64 0)),(.d (.int .i64 0)),(.d (.int .u8 0)),(.d (.int .u8 0)),(.d (.int .u8 0)),(.d (.int .u8 0)),(.d (.int .u8 0)),(.d (.int .u8 0)),(.d (.int .u8 0)),(.d (.int .u8 0))],none⟩,
     ⟨none,.st 10 (.tmp 15) (.tmp 64),none⟩,
     ⟨some 16,.mov (.tmp 65),none⟩])
    (.seq
     (.reg [] [⟨some 66,.ld true 22 (.tmp 3),none⟩,
      ⟨some 67,.call 20 [(.tmp 66)],none⟩,
      ⟨some 17,.mov (.tmp 67),none⟩])
     (.seq
     (.reg [] [⟨some 68,.mov (.tmp 17),none⟩,
      ⟨some 69,.mov (.tmp 17),none⟩,
      ⟨some 70,.ld true 10 (.tmp 5),none⟩,
      ⟨some 71,.call 31 [(.tmp 70)],none⟩,
      ⟨some 18,.mov (.tmp 68),none⟩,
      ⟨some 19,.mov (.tmp 69),none⟩,
      ⟨some 20,.mov (.tmp 71),none⟩])
     (.seq
      (.reg [8,9] [⟨some 21,.alloc 8 [(.d (.int .i64 0)),(.d (.int .i64 0)),(.d (.int .i64 0)),(.d (.int .i64 0)),(.d (.int .u8 0)),(.d (.int .u8 0)),(.d (.int .u8 0)),(.d (.int .u8 0)),(.d (.int .u8 0)),(.d (.int .u8 0)),(.d (.int .u8 0)),(.d (.int .u8 0)),(.d (.int .u8 0)),(.d (.int .u8 0)),(.d (.int .u8 0)),(.d (.int .u8 0)),(.d (.int .u8 0)),(.d (.int .u8 0)),(.d (.int .u8 0)),(.d (.int .u8 0)),(.d (.bool false)),(.nils 1)],none⟩,
       ⟨some 22,.alloc 9 [(.d (.int .i64 0)),(.d (.int .i64 0)),(.d (.int .i64 0)),(.d (.int .i64 0)),(.d (.int .u8 0)),(.d (.int .u8 0)),(.d (.int .u8 0)),(.d (.int .u8 0)),(.d (.int .u8 0)),(.d (.int .u8 0)),(.d (.int .u8 0)),(.d (.int .u8 0)),(.d (.int .u8 0)),(.d (.int .u8 0)),(.d (.int .u8 0)),(.d (.int .u8 0)),(.d (.int .u8 0)),(.d (.int .u8 0)),(.d (.int .u8 0)),(.d (.int .u8 0)),(.d (.bool false)),(.nils 1)],none⟩])
      (.seq
      (.reg [10] [⟨some 23,.alloc 10 [(.d (.int .i64 0)),(.d (.int .i64 0)),(.d (.int .u8 0)),(.d (.int .u8 0)),(.d (.int .u8 0)),(.d (.int .u8 0)),(.d (.int .u8 0)),(.d (.int .u8 0)),(.d (.int .u8 0)),(.d (.int .u8 0))],none⟩])
      (.seq
       (.reg [11] [⟨some 24,.alloc 11 [(.d (.int .u8 0)),(.d (.int .u8 0)),(.d (.int .u8 0)),(.d (.int .u8 0)),(.d (.int .u8 0)),(.d (.int .u8 0)),(.d (.int .u8 0)),(.d (.int .u8 0)),(.d (.int .u8 0)),(.d (.int .u8 0)),(.d (.int .u8 0)),(.d (.int .u8 0)),(.d (.int .u8 0)),(.d (.int .u8 0)),(.d (.int .u8 0)),(.d (.int .u8 0))],none⟩])
       (.seq
       (.seq
        (.reg [] [⟨some 72,.mov (.tmp 17),none⟩,
         ⟨some 73,.cmp .eql (.tmp 72) (.cst (.d (.int .i64 0))),none⟩])
        (.cond (.tmp 73)
        (.seq
         (.reg [] [⟨some 75,.ld true 22 (.tmp 3),none⟩,
          ⟨some 76,.fad 0 (.tmp 4),none⟩,
          ⟨some 77,.ld true 8 (.tmp 76),none⟩,
          ⟨some 78,.call 41 [(.tmp 75),(.tmp 77)],none⟩,
          ⟨some 74,.mov (.tmp 78),none⟩,
          ⟨some 79,.ext 0 (.tmp 74),none⟩,
          ⟨some 80,.ext 1 (.tmp 74),none⟩,
          ⟨none,.st 22 (.tmp 21) (.tmp 79),none⟩,
          ⟨some 18,.mov (.tmp 80),none⟩])
         (.reg [] [⟨some 82,.ld true 22 (.tmp 3),none⟩,
          ⟨some 83,.call 42 [(.tmp 82)],none⟩,
          ⟨some 81,.mov (.tmp 83),none⟩,
          ⟨some 84,.ext 0 (.tmp 81),none⟩,
          ⟨some 85,.ext 1 (.tmp 81),none⟩,
          ⟨none,.st 22 (.tmp 22) (.tmp 84),none⟩,
          ⟨some 19,.mov (.tmp 85),none⟩]))
        .skip))
       (.seq
        (.seq
        (.reg [] [⟨some 86,.mov (.tmp 20),none⟩,
         ⟨some 87,.cmp .eql (.tmp 86) (.cst (.d (.int .i64 0))),none⟩])
        (.cond (.tmp 87)
         (.regd [] [⟨some 88,.fad 0 (.tmp 4),none⟩,
          ⟨some 89,.ld true 8 (.tmp 88),none⟩,
          ⟨some 90,.fad 0 (.tmp 5),none⟩,
          ⟨some 91,.ld false 1 (.tmp 90),none⟩,
          ⟨some 92,.fad 1 (.tmp 5),none⟩,
          ⟨some 93,.ld false 1 (.tmp 92),none⟩,
          ⟨some 94,.call 43 [(.tmp 89),(.tmp 91),(.tmp 93)],none⟩,
          ⟨some 95,.ld true 10 (.tmp 5),none⟩,
          ⟨some 96,.call 44 [(.tmp 95)],none⟩,
          ⟨none,.st 10 (.tmp 23) (.tmp 94),none⟩,
          ⟨none,.st 16 (.tmp 24) (.tmp 96),none⟩] [(0,2),(1,2),(0,3),(1,3),(0,4),(1,4),(2,4),(3,4),(0,5),(1,5),(2,5),(3,5),(0,7),(1,7),(2,7),(3,7),(4,7),(5,7),(6,7)])
         .skip))
        (.seq
        (.reg [12] [⟨some 98,.fad 8 (.tmp 4),none⟩,
         ⟨some 99,.ld true 16 (.tmp 98),none⟩,
         ⟨some 100,.call 45 [(.tmp 99)],none⟩,
         ⟨some 97,.mov (.tmp 100),none⟩,
         ⟨some 101,.ext 0 (.tmp 97),none⟩,
         ⟨some 102,.ext 1 (.tmp 97),none⟩,
         ⟨some 25,.alloc 12 [(.d (.int .i64 0)),(.d (.int .i64 0)),(.d (.int .u8 0)),(.d (.int .u8 0)),(.d (.int .u8 0)),(.d (.int .u8 0)),(.d (.int .u8 0)),(.d (.int .u8 0)),(.d (.int .u8 0)),(.d (.int .u8 0))],none⟩,
         ⟨none,.st 10 (.tmp 25) (.tmp 101),none⟩,
         ⟨some 26,.mov (.tmp 102),none⟩])
        (.seq
         (.reg [] [⟨some 103,.ld true 22 (.tmp 7),none⟩,
          ⟨some 104,.mov (.tmp 8),none⟩,
          ⟨some 105,.mov (.tmp 18),none⟩,
          ⟨some 106,.ld true 22 (.tmp 21),none⟩,
          ⟨some 107,.call 26 [(.tmp 103),(.tmp 104),(.tmp 105),(.tmp 106)],none⟩,
          ⟨some 108,.mov (.tmp 107),none⟩,
          ⟨some 109,.ld true 22 (.tmp 9),some (108,true)⟩,
          ⟨some 110,.mov (.tmp 10),some (108,true)⟩,
          ⟨some 111,.mov (.tmp 19),some (108,true)⟩,
          ⟨some 112,.ld true 22 (.tmp 22),some (108,true)⟩,
          ⟨some 113,.call 26 [(.tmp 109),(.tmp 110),(.tmp 111),(.tmp 112)],some (108,true)⟩,
          ⟨some 114,.pick (.tmp 108) (.tmp 113) (.cst (.d (.bool false))),none⟩,
          ⟨some 115,.mov (.tmp 114),none⟩,
          ⟨some 116,.ld true 10 (.tmp 11),some (115,true)⟩,
          ⟨some 117,.ld true 10 (.tmp 23),some (115,true)⟩,
          ⟨some 118,.aeq false [0,0,0,0,0,0,0,0,0,0] (.tmp 116) (.tmp 117),some (115,true)⟩,
          ⟨some 119,.pick (.tmp 115) (.tmp 118) (.cst (.d (.bool false))),none⟩,
          ⟨some 120,.mov (.tmp 119),none⟩,
          ⟨some 121,.mov (.tmp 12),some (120,true)⟩,
          ⟨some 122,.mov (.tmp 20),some (120,true)⟩,
          ⟨some 123,.cmp .eql (.tmp 121) (.tmp 122),some (120,true)⟩,
          ⟨some 124,.pick (.tmp 120) (.tmp 123) (.cst (.d (.bool false))),none⟩,
          ⟨some 125,.mov (.tmp 124),none⟩,
          ⟨some 126,.ld true 16 (.tmp 13),some (125,true)⟩,
          ⟨some 127,.ld true 16 (.tmp 24),some (125,true)⟩,
          ⟨some 128,.aeq false [0,0,0,0,0,0,0,0,0,0,0,0,0,0,0,0] (.tmp 126) (.tmp 127),some (125,true)⟩,
          ⟨some 129,.pick (.tmp 125) (.tmp 128) (.cst (.d (.bool false))),none⟩,
          ⟨some 130,.mov (.tmp 129),none⟩,
          ⟨some 131,.mov (.tmp 14),some (130,true)⟩,
          ⟨some 132,.mov (.tmp 20),some (130,true)⟩,
          ⟨some 133,.cmp .eql (.tmp 131) (.tmp 132),some (130,true)⟩,
          ⟨some 134,.pick (.tmp 130) (.tmp 133) (.cst (.d (.bool false))),none⟩,
          ⟨some 135,.mov (.tmp 134),none⟩,
          ⟨some 136,.ld true 10 (.tmp 15),some (135,true)⟩,
          ⟨some 137,.ld true 10 (.tmp 25),some (135,true)⟩,
          ⟨some 138,.aeq false [0,0,0,0,0,0,0,0,0,0] (.tmp 136) (.tmp 137),some (135,true)⟩,
          ⟨some 139,.pick (.tmp 135) (.tmp 138) (.cst (.d (.bool false))),none⟩,
          ⟨some 140,.mov (.tmp 139),none⟩,
          ⟨some 141,.mov (.tmp 16),some (140,true)⟩,
          ⟨some 142,.mov (.tmp 26),some (140,true)⟩,
          ⟨some 143,.cmp .eql (.tmp 141) (.tmp 142),some (140,true)⟩,
          ⟨some 144,.pick (.tmp 140) (.tmp 143) (.cst (.d (.bool false))),none⟩,
          ⟨some 145,.mov (.tmp 144),none⟩,
          ⟨some 146,.call 15 [],some (145,true)⟩,
          ⟨some 147,.pick (.tmp 145) (.tmp 146) (.cst (.d (.bool false))),none⟩,
          ⟨some 6,.mov (.tmp 147),none⟩])
         .ret))))))))))))))))⟩
theorem c36x (a:Ac) (c:Bool) (q:Ky) (hl:a.u.length≤1048576) (hc:ckA a c=0):∃ (X:Ac) (e:Int),CallDet Tryz.prog 36 [.d (.agg [.int .i64 (a.b),.int .i64 (a.d),.int .i64 a.s,.int .i64 a.e,.int .u8 a.k.a,.int .u8 a.k.b,.int .u8 a.k.c,.int .u8 a.k.d,.int .u8 a.k.e,.int .u8 a.k.f,.int .u8 a.k.g,.int .u8 a.k.h,.int .u8 a.n.a,.int .u8 a.n.b,.int .u8 a.n.c,.int .u8 a.n.d,.int .u8 a.n.e,.int .u8 a.n.f,.int .u8 a.n.g,.int .u8 a.n.h,.bool c,.slice 1 (ints a.u)]),.d (.agg [.int .u8 q.a,.int .u8 q.b,.int .u8 q.c,.int .u8 q.d,.int .u8 q.e,.int .u8 q.f,.int .u8 q.g,.int .u8 q.h])] [.agg [.int .i64 (X.b),.int .i64 (X.d),.int .i64 X.s,.int .i64 X.e,.int .u8 X.k.a,.int .u8 X.k.b,.int .u8 X.k.c,.int .u8 X.k.d,.int .u8 X.k.e,.int .u8 X.k.f,.int .u8 X.k.g,.int .u8 X.k.h,.int .u8 X.n.a,.int .u8 X.n.b,.int .u8 X.n.c,.int .u8 X.n.d,.int .u8 X.n.e,.int .u8 X.n.f,.int .u8 X.n.g,.int .u8 X.n.h,.bool X.c,.slice 1 (ints X.u)],.int .i64 e]∧CallDet Tryz.prog 41 [.d (.agg [.int .i64 (a.b),.int .i64 (a.d),.int .i64 a.s,.int .i64 a.e,.int .u8 a.k.a,.int .u8 a.k.b,.int .u8 a.k.c,.int .u8 a.k.d,.int .u8 a.k.e,.int .u8 a.k.f,.int .u8 a.k.g,.int .u8 a.k.h,.int .u8 a.n.a,.int .u8 a.n.b,.int .u8 a.n.c,.int .u8 a.n.d,.int .u8 a.n.e,.int .u8 a.n.f,.int .u8 a.n.g,.int .u8 a.n.h,.bool c,.slice 1 (ints a.u)]),.d (.agg [.int .u8 q.a,.int .u8 q.b,.int .u8 q.c,.int .u8 q.d,.int .u8 q.e,.int .u8 q.f,.int .u8 q.g,.int .u8 q.h])] [.agg [.int .i64 (X.b),.int .i64 (X.d),.int .i64 X.s,.int .i64 X.e,.int .u8 X.k.a,.int .u8 X.k.b,.int .u8 X.k.c,.int .u8 X.k.d,.int .u8 X.k.e,.int .u8 X.k.f,.int .u8 X.k.g,.int .u8 X.k.h,.int .u8 X.n.a,.int .u8 X.n.b,.int .u8 X.n.c,.int .u8 X.n.d,.int .u8 X.n.e,.int .u8 X.n.f,.int .u8 X.n.g,.int .u8 X.n.h,.bool X.c,.slice 1 (ints X.u)],.int .i64 e]∧CallDet Tryz.prog 26 [.d (.agg [.int .i64 (X.b),.int .i64 (X.d),.int .i64 X.s,.int .i64 X.e,.int .u8 X.k.a,.int .u8 X.k.b,.int .u8 X.k.c,.int .u8 X.k.d,.int .u8 X.k.e,.int .u8 X.k.f,.int .u8 X.k.g,.int .u8 X.k.h,.int .u8 X.n.a,.int .u8 X.n.b,.int .u8 X.n.c,.int .u8 X.n.d,.int .u8 X.n.e,.int .u8 X.n.f,.int .u8 X.n.g,.int .u8 X.n.h,.bool X.c,.slice 1 (ints X.u)]),.d (.int .i64 e),.d (.int .i64 e),.d (.agg [.int .i64 (X.b),.int .i64 (X.d),.int .i64 X.s,.int .i64 X.e,.int .u8 X.k.a,.int .u8 X.k.b,.int .u8 X.k.c,.int .u8 X.k.d,.int .u8 X.k.e,.int .u8 X.k.f,.int .u8 X.k.g,.int .u8 X.k.h,.int .u8 X.n.a,.int .u8 X.n.b,.int .u8 X.n.c,.int .u8 X.n.d,.int .u8 X.n.e,.int .u8 X.n.f,.int .u8 X.n.g,.int .u8 X.n.h,.bool X.c,.slice 1 (ints X.u)])] [.bool true]:=by
 have h1:=c36 a c q hl
 have h2:=c41 a c q hl hc
 by_cases h:bgE a c q=0
 ·rw [h] at h1 h2
  exact ⟨⟨a.b,a.d,a.s,a.e,a.k,q,true,a.u⟩,0,h1,h2,c26s ⟨a.b,a.d,a.s,a.e,a.k,q,true,a.u⟩ true hl⟩
 ·rw [bne_t h] at h1 h2
  exact ⟨⟨0,0,0,0,⟨0,0,0,0,0,0,0,0⟩,⟨0,0,0,0,0,0,0,0⟩,false,[]⟩,bgE a c q,h1,h2,c26z (bgE a c q) h 0 0 0 0 0 0 0 0 0 0 0 0 0 0 0 0 0 0 0 0 false []⟩
theorem c37x (a:Ac) (c:Bool) (hl:a.u.length≤1048576) (hc:ckA a c=0):∃ (X:Ac) (e:Int),CallDet Tryz.prog 37 [.d (.agg [.int .i64 (a.b),.int .i64 (a.d),.int .i64 a.s,.int .i64 a.e,.int .u8 a.k.a,.int .u8 a.k.b,.int .u8 a.k.c,.int .u8 a.k.d,.int .u8 a.k.e,.int .u8 a.k.f,.int .u8 a.k.g,.int .u8 a.k.h,.int .u8 a.n.a,.int .u8 a.n.b,.int .u8 a.n.c,.int .u8 a.n.d,.int .u8 a.n.e,.int .u8 a.n.f,.int .u8 a.n.g,.int .u8 a.n.h,.bool c,.slice 1 (ints a.u)])] [.agg [.int .i64 (X.b),.int .i64 (X.d),.int .i64 X.s,.int .i64 X.e,.int .u8 X.k.a,.int .u8 X.k.b,.int .u8 X.k.c,.int .u8 X.k.d,.int .u8 X.k.e,.int .u8 X.k.f,.int .u8 X.k.g,.int .u8 X.k.h,.int .u8 X.n.a,.int .u8 X.n.b,.int .u8 X.n.c,.int .u8 X.n.d,.int .u8 X.n.e,.int .u8 X.n.f,.int .u8 X.n.g,.int .u8 X.n.h,.bool X.c,.slice 1 (ints X.u)],.int .i64 e]∧CallDet Tryz.prog 42 [.d (.agg [.int .i64 (a.b),.int .i64 (a.d),.int .i64 a.s,.int .i64 a.e,.int .u8 a.k.a,.int .u8 a.k.b,.int .u8 a.k.c,.int .u8 a.k.d,.int .u8 a.k.e,.int .u8 a.k.f,.int .u8 a.k.g,.int .u8 a.k.h,.int .u8 a.n.a,.int .u8 a.n.b,.int .u8 a.n.c,.int .u8 a.n.d,.int .u8 a.n.e,.int .u8 a.n.f,.int .u8 a.n.g,.int .u8 a.n.h,.bool c,.slice 1 (ints a.u)])] [.agg [.int .i64 (X.b),.int .i64 (X.d),.int .i64 X.s,.int .i64 X.e,.int .u8 X.k.a,.int .u8 X.k.b,.int .u8 X.k.c,.int .u8 X.k.d,.int .u8 X.k.e,.int .u8 X.k.f,.int .u8 X.k.g,.int .u8 X.k.h,.int .u8 X.n.a,.int .u8 X.n.b,.int .u8 X.n.c,.int .u8 X.n.d,.int .u8 X.n.e,.int .u8 X.n.f,.int .u8 X.n.g,.int .u8 X.n.h,.bool X.c,.slice 1 (ints X.u)],.int .i64 e]∧CallDet Tryz.prog 26 [.d (.agg [.int .i64 (X.b),.int .i64 (X.d),.int .i64 X.s,.int .i64 X.e,.int .u8 X.k.a,.int .u8 X.k.b,.int .u8 X.k.c,.int .u8 X.k.d,.int .u8 X.k.e,.int .u8 X.k.f,.int .u8 X.k.g,.int .u8 X.k.h,.int .u8 X.n.a,.int .u8 X.n.b,.int .u8 X.n.c,.int .u8 X.n.d,.int .u8 X.n.e,.int .u8 X.n.f,.int .u8 X.n.g,.int .u8 X.n.h,.bool X.c,.slice 1 (ints X.u)]),.d (.int .i64 e),.d (.int .i64 e),.d (.agg [.int .i64 (X.b),.int .i64 (X.d),.int .i64 X.s,.int .i64 X.e,.int .u8 X.k.a,.int .u8 X.k.b,.int .u8 X.k.c,.int .u8 X.k.d,.int .u8 X.k.e,.int .u8 X.k.f,.int .u8 X.k.g,.int .u8 X.k.h,.int .u8 X.n.a,.int .u8 X.n.b,.int .u8 X.n.c,.int .u8 X.n.d,.int .u8 X.n.e,.int .u8 X.n.f,.int .u8 X.n.g,.int .u8 X.n.h,.bool X.c,.slice 1 (ints X.u)])] [.bool true]:=by
 have h1:=c37 a c hl
 have h2:=c42 a c hl hc
 by_cases h:fiE a c=0
 ·rw [h] at h1 h2
  exact ⟨⟨a.b,a.d,a.s,a.e,a.n,⟨0,0,0,0,0,0,0,0⟩,false,a.u⟩,0,h1,h2,c26s ⟨a.b,a.d,a.s,a.e,a.n,⟨0,0,0,0,0,0,0,0⟩,false,a.u⟩ false hl⟩
 ·rw [bne_t h] at h1 h2
  exact ⟨⟨0,0,0,0,⟨0,0,0,0,0,0,0,0⟩,⟨0,0,0,0,0,0,0,0⟩,false,[]⟩,fiE a c,h1,h2,c26z (fiE a c) h 0 0 0 0 0 0 0 0 0 0 0 0 0 0 0 0 0 0 0 0 false []⟩
theorem c40x (p r:Ky) (hp:p.ok):∃ (n m:Int) (k:Ky) (e:Int),CallDet Tryz.prog 40 [.d (.agg [.int .u8 p.a,.int .u8 p.b,.int .u8 p.c,.int .u8 p.d,.int .u8 p.e,.int .u8 p.f,.int .u8 p.g,.int .u8 p.h,.int .u8 r.a,.int .u8 r.b,.int .u8 r.c,.int .u8 r.d,.int .u8 r.e,.int .u8 r.f,.int .u8 r.g,.int .u8 r.h])] [.agg [.int .i64 (n),.int .i64 (m),.int .u8 k.a,.int .u8 k.b,.int .u8 k.c,.int .u8 k.d,.int .u8 k.e,.int .u8 k.f,.int .u8 k.g,.int .u8 k.h],.int .i64 e]∧CallDet Tryz.prog 45 [.d (.agg [.int .u8 p.a,.int .u8 p.b,.int .u8 p.c,.int .u8 p.d,.int .u8 p.e,.int .u8 p.f,.int .u8 p.g,.int .u8 p.h,.int .u8 r.a,.int .u8 r.b,.int .u8 r.c,.int .u8 r.d,.int .u8 r.e,.int .u8 r.f,.int .u8 r.g,.int .u8 r.h])] [.agg [.int .i64 (n),.int .i64 (m),.int .u8 k.a,.int .u8 k.b,.int .u8 k.c,.int .u8 k.d,.int .u8 k.e,.int .u8 k.f,.int .u8 k.g,.int .u8 k.h],.int .i64 e]:=by
 have h1:=c40 p r hp
 have h2:=c45 p r hp
 by_cases h:ckT (nu p.a p.b p.c p.d 4) (nu p.e p.f p.g p.h 4)=0
 ·rw [h] at h1 h2
  exact ⟨_,_,r,0,h1,h2⟩
 ·rw [bne_t h] at h1 h2
  exact ⟨0,0,⟨0,0,0,0,0,0,0,0⟩,_,h1,h2⟩
theorem c36y (a:Ac) (c:Bool) (q:Ky) (hl:a.u.length≤1048576) (hc:¬ ckA a c=0):CallDet Tryz.prog 36 [.d (.agg [.int .i64 (a.b),.int .i64 (a.d),.int .i64 a.s,.int .i64 a.e,.int .u8 a.k.a,.int .u8 a.k.b,.int .u8 a.k.c,.int .u8 a.k.d,.int .u8 a.k.e,.int .u8 a.k.f,.int .u8 a.k.g,.int .u8 a.k.h,.int .u8 a.n.a,.int .u8 a.n.b,.int .u8 a.n.c,.int .u8 a.n.d,.int .u8 a.n.e,.int .u8 a.n.f,.int .u8 a.n.g,.int .u8 a.n.h,.bool c,.slice 1 (ints a.u)]),.d (.agg [.int .u8 q.a,.int .u8 q.b,.int .u8 q.c,.int .u8 q.d,.int .u8 q.e,.int .u8 q.f,.int .u8 q.g,.int .u8 q.h])] [.agg [.int .i64 0,.int .i64 0,.int .i64 0,.int .i64 0,.int .u8 0,.int .u8 0,.int .u8 0,.int .u8 0,.int .u8 0,.int .u8 0,.int .u8 0,.int .u8 0,.int .u8 0,.int .u8 0,.int .u8 0,.int .u8 0,.int .u8 0,.int .u8 0,.int .u8 0,.int .u8 0,.bool false,.slice 1 []],.int .i64 (ckA a c)]:=by
 have h1:=c36 a c q hl
 have e:bgE a c q=ckA a c:=by rw [bgE]; simp only [firstOf]; rw [bne_t hc]; rfl
 rw [e,bne_t hc] at h1
 exact h1
theorem c37y (a:Ac) (c:Bool) (hl:a.u.length≤1048576) (hc:¬ ckA a c=0):CallDet Tryz.prog 37 [.d (.agg [.int .i64 (a.b),.int .i64 (a.d),.int .i64 a.s,.int .i64 a.e,.int .u8 a.k.a,.int .u8 a.k.b,.int .u8 a.k.c,.int .u8 a.k.d,.int .u8 a.k.e,.int .u8 a.k.f,.int .u8 a.k.g,.int .u8 a.k.h,.int .u8 a.n.a,.int .u8 a.n.b,.int .u8 a.n.c,.int .u8 a.n.d,.int .u8 a.n.e,.int .u8 a.n.f,.int .u8 a.n.g,.int .u8 a.n.h,.bool c,.slice 1 (ints a.u)])] [.agg [.int .i64 0,.int .i64 0,.int .i64 0,.int .i64 0,.int .u8 0,.int .u8 0,.int .u8 0,.int .u8 0,.int .u8 0,.int .u8 0,.int .u8 0,.int .u8 0,.int .u8 0,.int .u8 0,.int .u8 0,.int .u8 0,.int .u8 0,.int .u8 0,.int .u8 0,.int .u8 0,.bool false,.slice 1 []],.int .i64 (ckA a c)]:=by
 have h1:=c37 a c hl
 have e:fiE a c=ckA a c:=by rw [fiE]; simp only [firstOf]; rw [bne_t hc]; rfl
 rw [e,bne_t hc] at h1
 exact h1
theorem c5 (a:Ac) (c:Bool) (q p r k:Ky) (n m:Int) (hl:a.u.length≤1048576) (hq:q.ok) (hp:p.ok):CallDet Tryz.prog 5 [.d (.agg [.int .i64 (a.b),.int .i64 (a.d),.int .i64 a.s,.int .i64 a.e,.int .u8 a.k.a,.int .u8 a.k.b,.int .u8 a.k.c,.int .u8 a.k.d,.int .u8 a.k.e,.int .u8 a.k.f,.int .u8 a.k.g,.int .u8 a.k.h,.int .u8 a.n.a,.int .u8 a.n.b,.int .u8 a.n.c,.int .u8 a.n.d,.int .u8 a.n.e,.int .u8 a.n.f,.int .u8 a.n.g,.int .u8 a.n.h,.bool c,.slice 1 (ints a.u)]),.d (.agg [.int .u8 q.a,.int .u8 q.b,.int .u8 q.c,.int .u8 q.d,.int .u8 q.e,.int .u8 q.f,.int .u8 q.g,.int .u8 q.h,.int .u8 p.a,.int .u8 p.b,.int .u8 p.c,.int .u8 p.d,.int .u8 p.e,.int .u8 p.f,.int .u8 p.g,.int .u8 p.h,.int .u8 r.a,.int .u8 r.b,.int .u8 r.c,.int .u8 r.d,.int .u8 r.e,.int .u8 r.f,.int .u8 r.g,.int .u8 r.h]),.d (.agg [.int .i64 (n),.int .i64 (m),.int .u8 k.a,.int .u8 k.b,.int .u8 k.c,.int .u8 k.d,.int .u8 k.e,.int .u8 k.f,.int .u8 k.g,.int .u8 k.h])] [.bool true]:=by
 have c14_:=c14 a c
 cases hs:shU a.u with
 | false =>
  rw [hs] at c14_
  refine call_of_vc (x:=jr5) (by kernel_rfl) rfl ?_
  refine ca c14_ ?_
  refine ca (c15) ?_
  exact rfl
 | true =>
  rw [hs] at c14_
  have c17_:=c17 a c hl
  have c20_:=c20 a c hl
  have c31_:=c31 n m k
  have c38_:=c38 n m q hq
  have c39_:=c39 n m k
  obtain ⟨un,um,uk,ue,c40_,c45_⟩:=c40x p r hp
  by_cases ht:ckT n m=0
  ·obtain ⟨t1,t2⟩:=ckT_b ht
   have c43_:=c43 n m q hq (by omega) (by omega)
   have c44_:=c44 n m k (by omega) (by omega)
   rw [ht] at c31_ c38_ c39_
   by_cases h0:ckA a c=0
   ·obtain ⟨X,e1,c36_,c41_,c26_1⟩:=c36x a c q hl h0
    obtain ⟨Y,e2,c37_,c42_,c26_2⟩:=c37x a c hl h0
    rw [h0] at c20_
    refine call_of_vc (x:=jr5) (by kernel_rfl) rfl ?_
    refine ca c14_ ?_
    refine ca c17_ ?_
    refine ca c36_ ?_
    refine ca c17_ ?_
    refine ca c37_ ?_
    refine ca c38_ ?_
    refine ca c39_ ?_
    refine ca c40_ ?_
    refine ca c20_ ?_
    refine ca c31_ ?_
    refine sd ?_
    refine ca c41_ ?_
    refine ca c42_ ?_
    refine sd ?_
    refine ca c43_ ?_
    refine ca c44_ ?_
    refine ca c45_ ?_
    refine ca c26_1 ?_
    refine ca c26_2 ?_
    refine ca (Exists.intro _ (And.intro rfl rfl)) ?_
    refine b_intro (fun t3=>?_) (fun t3=>?_)
    replace t3:(n==n&&(m==m&&(Ky.a (sealK q (o4 n++o4 m))==Ky.a (sealK q (o4 n++o4 m))&&(Ky.b (sealK q (o4 n++o4 m))==Ky.b (sealK q (o4 n++o4 m))&&(Ky.c (sealK q (o4 n++o4 m))==Ky.c (sealK q (o4 n++o4 m))&&(Ky.d (sealK q (o4 n++o4 m))==Ky.d (sealK q (o4 n++o4 m))&&(Ky.e (sealK q (o4 n++o4 m))==Ky.e (sealK q (o4 n++o4 m))&&(Ky.f (sealK q (o4 n++o4 m))==Ky.f (sealK q (o4 n++o4 m))&&(Ky.g (sealK q (o4 n++o4 m))==Ky.g (sealK q (o4 n++o4 m))&&(Ky.h (sealK q (o4 n++o4 m))==Ky.h (sealK q (o4 n++o4 m))&&true))))))))))=true:=t3
    refine sd ?_
    refine ca (Exists.intro _ (And.intro rfl rfl)) ?_
    refine b_intro (fun t4=>?_) (fun t4=>?_)
    replace t4:(n / (16777216:Int) % (256:Int)==n / (16777216:Int) % (256:Int)&&(n / (65536:Int) % (256:Int)==n / (65536:Int) % (256:Int)&&(n / (256:Int) % (256:Int)==n / (256:Int) % (256:Int)&&(n % (256:Int)==n % (256:Int)&&(m / (16777216:Int) % (256:Int)==m / (16777216:Int) % (256:Int)&&(m / (65536:Int) % (256:Int)==m / (65536:Int) % (256:Int)&&(m / (256:Int) % (256:Int)==m / (256:Int) % (256:Int)&&(m % (256:Int)==m % (256:Int)&&(Ky.a k==Ky.a k&&(Ky.b k==Ky.b k&&(Ky.c k==Ky.c k&&(Ky.d k==Ky.d k&&(Ky.e k==Ky.e k&&(Ky.f k==Ky.f k&&(Ky.g k==Ky.g k&&(Ky.h k==Ky.h k&&true))))))))))))))))=true:=t4
    refine sd ?_
    refine ca (Exists.intro _ (And.intro rfl rfl)) ?_
    refine b_intro (fun t5=>?_) (fun t5=>?_)
    replace t5:(un==un&&(um==um&&(Ky.a uk==Ky.a uk&&(Ky.b uk==Ky.b uk&&(Ky.c uk==Ky.c uk&&(Ky.d uk==Ky.d uk&&(Ky.e uk==Ky.e uk&&(Ky.f uk==Ky.f uk&&(Ky.g uk==Ky.g uk&&(Ky.h uk==Ky.h uk&&true))))))))))=true:=t5
    refine sd ?_
    refine b_eq (fun t6=>?_) (fun t6=>?_)
    refine ca (c15) ?_
    exact rfl
    (exfalso; omega)
    replace t5:(un==un&&(um==um&&(Ky.a uk==Ky.a uk&&(Ky.b uk==Ky.b uk&&(Ky.c uk==Ky.c uk&&(Ky.d uk==Ky.d uk&&(Ky.e uk==Ky.e uk&&(Ky.f uk==Ky.f uk&&(Ky.g uk==Ky.g uk&&(Ky.h uk==Ky.h uk&&true))))))))))=false:=t5
    refine sd ?_
    refine sd ?_
    rotate_left
    replace t4:(n / (16777216:Int) % (256:Int)==n / (16777216:Int) % (256:Int)&&(n / (65536:Int) % (256:Int)==n / (65536:Int) % (256:Int)&&(n / (256:Int) % (256:Int)==n / (256:Int) % (256:Int)&&(n % (256:Int)==n % (256:Int)&&(m / (16777216:Int) % (256:Int)==m / (16777216:Int) % (256:Int)&&(m / (65536:Int) % (256:Int)==m / (65536:Int) % (256:Int)&&(m / (256:Int) % (256:Int)==m / (256:Int) % (256:Int)&&(m % (256:Int)==m % (256:Int)&&(Ky.a k==Ky.a k&&(Ky.b k==Ky.b k&&(Ky.c k==Ky.c k&&(Ky.d k==Ky.d k&&(Ky.e k==Ky.e k&&(Ky.f k==Ky.f k&&(Ky.g k==Ky.g k&&(Ky.h k==Ky.h k&&true))))))))))))))))=false:=t4
    refine sd ?_
    refine sd ?_
    refine sd ?_
    refine sd ?_
    rotate_left
    replace t3:(n==n&&(m==m&&(Ky.a (sealK q (o4 n++o4 m))==Ky.a (sealK q (o4 n++o4 m))&&(Ky.b (sealK q (o4 n++o4 m))==Ky.b (sealK q (o4 n++o4 m))&&(Ky.c (sealK q (o4 n++o4 m))==Ky.c (sealK q (o4 n++o4 m))&&(Ky.d (sealK q (o4 n++o4 m))==Ky.d (sealK q (o4 n++o4 m))&&(Ky.e (sealK q (o4 n++o4 m))==Ky.e (sealK q (o4 n++o4 m))&&(Ky.f (sealK q (o4 n++o4 m))==Ky.f (sealK q (o4 n++o4 m))&&(Ky.g (sealK q (o4 n++o4 m))==Ky.g (sealK q (o4 n++o4 m))&&(Ky.h (sealK q (o4 n++o4 m))==Ky.h (sealK q (o4 n++o4 m))&&true))))))))))=false:=t3
    refine sd ?_
    refine sd ?_
    refine sd ?_
    refine sd ?_
    refine sd ?_
    refine sd ?_
    rotate_left
    all_goals first | (simp at t6; done) | (simp at t5; done) | (simp at t4; done) | (simp at t3; done) | (simp at t2; done)
   ·have c36_:=c36y a c q hl h0
    have c37_:=c37y a c hl h0
    have c26_:=c26z (ckA a c) h0 0 0 0 0 0 0 0 0 0 0 0 0 0 0 0 0 0 0 0 0 false []
    refine call_of_vc (x:=jr5) (by kernel_rfl) rfl ?_
    refine ca c14_ ?_
    refine ca c17_ ?_
    refine ca c36_ ?_
    refine ca c17_ ?_
    refine ca c37_ ?_
    refine ca c38_ ?_
    refine ca c39_ ?_
    refine ca c40_ ?_
    refine ca c20_ ?_
    refine ca c31_ ?_
    refine sd ?_
    refine b_eq (fun t3=>?_) (fun t3=>?_)
    (exfalso; omega)
    refine sd ?_
    refine ca c43_ ?_
    refine ca c44_ ?_
    refine ca c45_ ?_
    refine ca c26_ ?_
    refine ca c26_ ?_
    refine ca (Exists.intro _ (And.intro rfl rfl)) ?_
    refine b_intro (fun t4=>?_) (fun t4=>?_)
    replace t4:(n==n&&(m==m&&(Ky.a (sealK q (o4 n++o4 m))==Ky.a (sealK q (o4 n++o4 m))&&(Ky.b (sealK q (o4 n++o4 m))==Ky.b (sealK q (o4 n++o4 m))&&(Ky.c (sealK q (o4 n++o4 m))==Ky.c (sealK q (o4 n++o4 m))&&(Ky.d (sealK q (o4 n++o4 m))==Ky.d (sealK q (o4 n++o4 m))&&(Ky.e (sealK q (o4 n++o4 m))==Ky.e (sealK q (o4 n++o4 m))&&(Ky.f (sealK q (o4 n++o4 m))==Ky.f (sealK q (o4 n++o4 m))&&(Ky.g (sealK q (o4 n++o4 m))==Ky.g (sealK q (o4 n++o4 m))&&(Ky.h (sealK q (o4 n++o4 m))==Ky.h (sealK q (o4 n++o4 m))&&true))))))))))=true:=t4
    refine sd ?_
    refine ca (Exists.intro _ (And.intro rfl rfl)) ?_
    refine b_intro (fun t5=>?_) (fun t5=>?_)
    replace t5:(n / (16777216:Int) % (256:Int)==n / (16777216:Int) % (256:Int)&&(n / (65536:Int) % (256:Int)==n / (65536:Int) % (256:Int)&&(n / (256:Int) % (256:Int)==n / (256:Int) % (256:Int)&&(n % (256:Int)==n % (256:Int)&&(m / (16777216:Int) % (256:Int)==m / (16777216:Int) % (256:Int)&&(m / (65536:Int) % (256:Int)==m / (65536:Int) % (256:Int)&&(m / (256:Int) % (256:Int)==m / (256:Int) % (256:Int)&&(m % (256:Int)==m % (256:Int)&&(Ky.a k==Ky.a k&&(Ky.b k==Ky.b k&&(Ky.c k==Ky.c k&&(Ky.d k==Ky.d k&&(Ky.e k==Ky.e k&&(Ky.f k==Ky.f k&&(Ky.g k==Ky.g k&&(Ky.h k==Ky.h k&&true))))))))))))))))=true:=t5
    refine sd ?_
    refine ca (Exists.intro _ (And.intro rfl rfl)) ?_
    refine b_intro (fun t6=>?_) (fun t6=>?_)
    replace t6:(un==un&&(um==um&&(Ky.a uk==Ky.a uk&&(Ky.b uk==Ky.b uk&&(Ky.c uk==Ky.c uk&&(Ky.d uk==Ky.d uk&&(Ky.e uk==Ky.e uk&&(Ky.f uk==Ky.f uk&&(Ky.g uk==Ky.g uk&&(Ky.h uk==Ky.h uk&&true))))))))))=true:=t6
    refine sd ?_
    refine b_eq (fun t7=>?_) (fun t7=>?_)
    refine ca (c15) ?_
    exact rfl
    (exfalso; omega)
    replace t6:(un==un&&(um==um&&(Ky.a uk==Ky.a uk&&(Ky.b uk==Ky.b uk&&(Ky.c uk==Ky.c uk&&(Ky.d uk==Ky.d uk&&(Ky.e uk==Ky.e uk&&(Ky.f uk==Ky.f uk&&(Ky.g uk==Ky.g uk&&(Ky.h uk==Ky.h uk&&true))))))))))=false:=t6
    refine sd ?_
    refine sd ?_
    rotate_left
    replace t5:(n / (16777216:Int) % (256:Int)==n / (16777216:Int) % (256:Int)&&(n / (65536:Int) % (256:Int)==n / (65536:Int) % (256:Int)&&(n / (256:Int) % (256:Int)==n / (256:Int) % (256:Int)&&(n % (256:Int)==n % (256:Int)&&(m / (16777216:Int) % (256:Int)==m / (16777216:Int) % (256:Int)&&(m / (65536:Int) % (256:Int)==m / (65536:Int) % (256:Int)&&(m / (256:Int) % (256:Int)==m / (256:Int) % (256:Int)&&(m % (256:Int)==m % (256:Int)&&(Ky.a k==Ky.a k&&(Ky.b k==Ky.b k&&(Ky.c k==Ky.c k&&(Ky.d k==Ky.d k&&(Ky.e k==Ky.e k&&(Ky.f k==Ky.f k&&(Ky.g k==Ky.g k&&(Ky.h k==Ky.h k&&true))))))))))))))))=false:=t5
    refine sd ?_
    refine sd ?_
    refine sd ?_
    refine sd ?_
    rotate_left
    replace t4:(n==n&&(m==m&&(Ky.a (sealK q (o4 n++o4 m))==Ky.a (sealK q (o4 n++o4 m))&&(Ky.b (sealK q (o4 n++o4 m))==Ky.b (sealK q (o4 n++o4 m))&&(Ky.c (sealK q (o4 n++o4 m))==Ky.c (sealK q (o4 n++o4 m))&&(Ky.d (sealK q (o4 n++o4 m))==Ky.d (sealK q (o4 n++o4 m))&&(Ky.e (sealK q (o4 n++o4 m))==Ky.e (sealK q (o4 n++o4 m))&&(Ky.f (sealK q (o4 n++o4 m))==Ky.f (sealK q (o4 n++o4 m))&&(Ky.g (sealK q (o4 n++o4 m))==Ky.g (sealK q (o4 n++o4 m))&&(Ky.h (sealK q (o4 n++o4 m))==Ky.h (sealK q (o4 n++o4 m))&&true))))))))))=false:=t4
    refine sd ?_
    refine sd ?_
    refine sd ?_
    refine sd ?_
    refine sd ?_
    refine sd ?_
    rotate_left
    all_goals first | (simp at t6; done) | (simp at t5; done) | (simp at t4; done) | (simp at t3; done) | (simp at t2; done)
  ·rw [bne_t ht] at c38_ c39_
   by_cases h0:ckA a c=0
   ·obtain ⟨X,e1,c36_,c41_,c26_1⟩:=c36x a c q hl h0
    obtain ⟨Y,e2,c37_,c42_,c26_2⟩:=c37x a c hl h0
    rw [h0] at c20_
    refine call_of_vc (x:=jr5) (by kernel_rfl) rfl ?_
    refine ca c14_ ?_
    refine ca c17_ ?_
    refine ca c36_ ?_
    refine ca c17_ ?_
    refine ca c37_ ?_
    refine ca c38_ ?_
    refine ca c39_ ?_
    refine ca c40_ ?_
    refine ca c20_ ?_
    refine ca c31_ ?_
    refine sd ?_
    refine ca c41_ ?_
    refine ca c42_ ?_
    refine sd ?_
    refine b_eq (fun t1=>?_) (fun t1=>?_)
    (exfalso; omega)
    refine ca c45_ ?_
    refine ca c26_1 ?_
    refine ca c26_2 ?_
    refine ca (Exists.intro _ (And.intro rfl rfl)) ?_
    refine sd ?_
    refine b_eq (fun t2=>?_) (fun t2=>?_)
    refine ca (Exists.intro _ (And.intro rfl rfl)) ?_
    refine sd ?_
    refine b_eq (fun t3=>?_) (fun t3=>?_)
    refine ca (Exists.intro _ (And.intro rfl rfl)) ?_
    refine b_intro (fun t4=>?_) (fun t4=>?_)
    replace t4:(un==un&&(um==um&&(Ky.a uk==Ky.a uk&&(Ky.b uk==Ky.b uk&&(Ky.c uk==Ky.c uk&&(Ky.d uk==Ky.d uk&&(Ky.e uk==Ky.e uk&&(Ky.f uk==Ky.f uk&&(Ky.g uk==Ky.g uk&&(Ky.h uk==Ky.h uk&&true))))))))))=true:=t4
    refine sd ?_
    refine b_eq (fun t5=>?_) (fun t5=>?_)
    refine ca (c15) ?_
    exact rfl
    (exfalso; omega)
    replace t4:(un==un&&(um==um&&(Ky.a uk==Ky.a uk&&(Ky.b uk==Ky.b uk&&(Ky.c uk==Ky.c uk&&(Ky.d uk==Ky.d uk&&(Ky.e uk==Ky.e uk&&(Ky.f uk==Ky.f uk&&(Ky.g uk==Ky.g uk&&(Ky.h uk==Ky.h uk&&true))))))))))=false:=t4
    refine sd ?_
    refine sd ?_
    rotate_left
    (exfalso; omega)
    (exfalso; omega)
    all_goals first | (simp at t6; done) | (simp at t5; done) | (simp at t4; done) | (simp at t3; done) | (simp at t2; done)
   ·have c36_:=c36y a c q hl h0
    have c37_:=c37y a c hl h0
    have c26_:=c26z (ckA a c) h0 0 0 0 0 0 0 0 0 0 0 0 0 0 0 0 0 0 0 0 0 false []
    refine call_of_vc (x:=jr5) (by kernel_rfl) rfl ?_
    refine ca c14_ ?_
    refine ca c17_ ?_
    refine ca c36_ ?_
    refine ca c17_ ?_
    refine ca c37_ ?_
    refine ca c38_ ?_
    refine ca c39_ ?_
    refine ca c40_ ?_
    refine ca c20_ ?_
    refine ca c31_ ?_
    refine sd ?_
    refine b_eq (fun t1=>?_) (fun t1=>?_)
    (exfalso; omega)
    refine sd ?_
    refine b_eq (fun t2=>?_) (fun t2=>?_)
    (exfalso; omega)
    refine ca c45_ ?_
    refine ca c26_ ?_
    refine ca c26_ ?_
    refine ca (Exists.intro _ (And.intro rfl rfl)) ?_
    refine sd ?_
    refine b_eq (fun t3=>?_) (fun t3=>?_)
    refine ca (Exists.intro _ (And.intro rfl rfl)) ?_
    refine sd ?_
    refine b_eq (fun t4=>?_) (fun t4=>?_)
    refine ca (Exists.intro _ (And.intro rfl rfl)) ?_
    refine b_intro (fun t5=>?_) (fun t5=>?_)
    replace t5:(un==un&&(um==um&&(Ky.a uk==Ky.a uk&&(Ky.b uk==Ky.b uk&&(Ky.c uk==Ky.c uk&&(Ky.d uk==Ky.d uk&&(Ky.e uk==Ky.e uk&&(Ky.f uk==Ky.f uk&&(Ky.g uk==Ky.g uk&&(Ky.h uk==Ky.h uk&&true))))))))))=true:=t5
    refine sd ?_
    refine b_eq (fun t6=>?_) (fun t6=>?_)
    refine ca (c15) ?_
    exact rfl
    (exfalso; omega)
    replace t5:(un==un&&(um==um&&(Ky.a uk==Ky.a uk&&(Ky.b uk==Ky.b uk&&(Ky.c uk==Ky.c uk&&(Ky.d uk==Ky.d uk&&(Ky.e uk==Ky.e uk&&(Ky.f uk==Ky.f uk&&(Ky.g uk==Ky.g uk&&(Ky.h uk==Ky.h uk&&true))))))))))=false:=t5
    refine sd ?_
    refine sd ?_
    rotate_left
    (exfalso; omega)
    (exfalso; omega)
    all_goals first | (simp at t6; done) | (simp at t5; done) | (simp at t4; done) | (simp at t3; done) | (simp at t2; done)
end Vc
