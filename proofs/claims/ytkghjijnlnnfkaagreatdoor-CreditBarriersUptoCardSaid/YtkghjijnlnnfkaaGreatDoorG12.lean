import Derived.Test.YtkghjijnlnnfkaaGreatDoorG11
set_option linter.unusedSectionVars false
set_option linter.unusedVariables false
set_option linter.unusedSimpArgs false
set_option maxRecDepth 10000
set_option maxHeartbeats 4000000
namespace Vc
open Go Go.Proofs
structure Ky where
 a:Int
 b:Int
 c:Int
 d:Int
 e:Int
 f:Int
 g:Int
 h:Int
structure Ac where
 b:Int
 d:Int
 s:Int
 e:Int
 k:Ky
 n:Ky
 c:Bool
 u:List Int
def jr93:AFun:=⟨15,3,[.cell 2 22 true],
 (.seq
 (.reg [0,1] [⟨some 1,.box 0 22 (.tmp 0),none⟩,
  ⟨some 2,.alloc 1 [(.d (.int .i64 0)),(.d (.int .i64 0)),(.d (.int .i64 0)),(.d (.int .i64 0)),(.d (.int .u8 0)),(.d (.int .u8 0)),(.d (.int .u8 0)),(.d (.int .u8 0)),(.d (.int .u8 0)),(.d (.int .u8 0)),(.d (.int .u8 0)),(.d (.int .u8 0)),(.d (.int .u8 0)),(.d (.int .u8 0)),(.d (.int .u8 0)),(.d (.int .u8 0)),(.d (.int .u8 0)),(.d (.int .u8 0)),(.d (.int .u8 0)),(.d (.int .u8 0)),(.d (.bool false)),(.nils 1)],none⟩])
 (.seq
  (.reg [2] [⟨some 4,.fad 21 (.tmp 1),none⟩,
   ⟨some 5,.ld false 1 (.tmp 4),none⟩,
   ⟨some 6,.len (.tmp 5),none⟩,
   ⟨some 7,.msl 2 3 1 8 (.int .i64 0) (.tmp 6),none⟩,
   ⟨some 3,.mov (.tmp 7),none⟩])
  (.seq
  (.reg [] [⟨some 8,.mov (.tmp 3),none⟩,
   ⟨some 9,.fad 21 (.tmp 1),none⟩,
   ⟨some 10,.ld false 1 (.tmp 9),none⟩,
   ⟨some 11,.copy 1 (.tmp 8) (.tmp 10),none⟩])
  (.seq
   (.reg [] [⟨some 12,.mov (.tmp 3),none⟩,
    ⟨some 13,.fad 21 (.tmp 1),none⟩,
    ⟨none,.st 1 (.tmp 13) (.tmp 12),none⟩])
   (.seq
   (.reg [] [⟨some 14,.ld true 22 (.tmp 1),none⟩,
    ⟨none,.st 22 (.tmp 2) (.tmp 14),none⟩])
   .ret)))))⟩
def jr95:AFun:=⟨8,1,[.tmp 2],
 (.seq
 (.reg [0] [⟨some 1,.cbx 0 22 (.tmp 0),none⟩,
  ⟨some 2,.mov (.cst (.d (.int .i64 0))),none⟩])
 (.seq
  (.reg [] [⟨some 3,.fad 0 (.tmp 1),none⟩,
   ⟨some 4,.ld false 1 (.tmp 3),none⟩,
   ⟨some 5,.fad 3 (.tmp 1),none⟩,
   ⟨some 6,.ld false 1 (.tmp 5),none⟩,
   ⟨some 7,.arith .add .i64 (.tmp 4) (.tmp 6),none⟩,
   ⟨some 2,.mov (.tmp 7),none⟩])
  .ret))⟩
def jr25:AFun:=⟨60,3,[.tmp 2],
 (.seq
 (.reg [0] [⟨some 1,.cbx 0 22 (.tmp 0),none⟩,
  ⟨some 2,.mov (.cst (.d (.int .i64 0))),none⟩])
 (.seq
  (.seq
  (.regd [1] [⟨some 8,.fad 0 (.tmp 1),none⟩,
   ⟨some 9,.ld false 1 (.tmp 8),none⟩,
   ⟨some 10,.call 91 [(.tmp 9),(.cst (.d (.int .i64 (-1000000000000)))),(.cst (.d (.int .i64 1000000000000)))],none⟩,
   ⟨some 11,.fad 1 (.tmp 1),none⟩,
   ⟨some 12,.ld false 1 (.tmp 11),none⟩,
   ⟨some 13,.call 91 [(.tmp 12),(.cst (.d (.int .i64 0))),(.cst (.d (.int .i64 1000000000000)))],none⟩,
   ⟨some 14,.fad 2 (.tmp 1),none⟩,
   ⟨some 15,.ld false 1 (.tmp 14),none⟩,
   ⟨some 16,.call 91 [(.tmp 15),(.cst (.d (.int .i64 0))),(.cst (.d (.int .i64 100)))],none⟩,
   ⟨some 17,.fad 3 (.tmp 1),none⟩,
   ⟨some 18,.ld false 1 (.tmp 17),none⟩,
   ⟨some 19,.call 91 [(.tmp 18),(.cst (.d (.int .i64 0))),(.cst (.d (.int .i64 100000000)))],none⟩,
   ⟨some 20,.fad 20 (.tmp 1),none⟩,
   ⟨some 21,.ld false 1 (.tmp 20),none⟩,
   ⟨some 22,.not (.tmp 21),none⟩,
   ⟨some 23,.mov (.tmp 22),none⟩,
   ⟨some 24,.fad 12 (.tmp 1),some (23,true)⟩,
   ⟨some 25,.ld true 8 (.tmp 24),some (23,true)⟩,
   ⟨some 26,.build [(.d (.int .u8 0)),(.d (.int .u8 0)),(.d (.int .u8 0)),(.d (.int .u8 0)),(.d (.int .u8 0)),(.d (.int .u8 0)),(.d (.int .u8 0)),(.d (.int .u8 0))] [],some (23,true)⟩,
   ⟨some 27,.aeq true [0,0,0,0,0,0,0,0] (.tmp 25) (.tmp 26),some (23,true)⟩,
   ⟨some 28,.pick (.tmp 23) (.tmp 27) (.cst (.d (.bool false))),none⟩,
   ⟨some 29,.call 92 [(.tmp 28),(.cst (.d (.int .i64 1)))],none⟩,
   ⟨some 30,.fad 21 (.tmp 1),none⟩,
   ⟨some 31,.ld false 1 (.tmp 30),none⟩,
   ⟨some 32,.len (.tmp 31),none⟩,
   ⟨some 33,.cmp .gtr (.tmp 32) (.cst (.d (.int .i64 256))),none⟩,
   ⟨some 34,.call 92 [(.tmp 33),(.cst (.d (.int .i64 5)))],none⟩,
   ⟨some 35,.bsl 1 30 1 6 [(.int .i64 0),(.int .i64 0),(.int .i64 0),(.int .i64 0),(.int .i64 0),(.int .i64 0)] [(0,(.tmp 10)),(1,(.tmp 13)),(2,(.tmp 16)),(3,(.tmp 19)),(4,(.tmp 29)),(5,(.tmp 34))],none⟩,
   ⟨some 36,.call 90 [(.tmp 35)],none⟩,
   ⟨some 3,.mov (.tmp 36),none⟩] [(0,3),(1,3),(2,3),(0,4),(1,4),(2,4),(0,6),(1,6),(2,6),(3,6),(4,6),(5,6),(0,7),(1,7),(2,7),(3,7),(4,7),(5,7),(0,9),(1,9),(2,9),(3,9),(4,9),(5,9),(6,9),(7,9),(8,9),(0,10),(1,10),(2,10),(3,10),(4,10),(5,10),(6,10),(7,10),(8,10),(0,12),(1,12),(2,12),(3,12),(4,12),(5,12),(6,12),(7,12),(8,12),(9,12),(10,12),(11,12),(0,13),(1,13),(2,13),(3,13),(4,13),(5,13),(6,13),(7,13),(8,13),(9,13),(10,13),(11,13),(0,14),(1,14),(2,14),(3,14),(4,14),(5,14),(6,14),(7,14),(8,14),(9,14),(10,14),(11,14),(16,18),(17,18),(0,22),(1,22),(2,22),(3,22),(4,22),(5,22),(6,22),(7,22),(8,22),(9,22),(10,22),(11,22),(12,22),(13,22),(14,22),(15,22),(16,22),(17,22),(18,22),(19,22),(20,22),(21,22),(0,23),(1,23),(2,23),(3,23),(4,23),(5,23),(6,23),(7,23),(8,23),(9,23),(10,23),(11,23),(12,23),(13,23),(14,23),(15,23),(16,23),(17,23),(18,23),(19,23),(20,23),(21,23),(0,24),(1,24),(2,24),(3,24),(4,24),(5,24),(6,24),(7,24),(8,24),(9,24),(10,24),(11,24),(12,24),(13,24),(14,24),(15,24),(16,24),(17,24),(18,24),(19,24),(20,24),(21,24),(0,25),(1,25),(2,25),(3,25),(4,25),(5,25),(6,25),(7,25),(8,25),(9,25),(10,25),(11,25),(12,25),(13,25),(14,25),(15,25),(16,25),(17,25),(18,25),(19,25),(20,25),(21,25)])
  (.seq
   (.reg [] [⟨some 37,.mov (.tmp 3),none⟩,
    ⟨some 38,.cmp .neq (.tmp 37) (.cst (.d (.int .i64 0))),none⟩])
   (.cond (.tmp 38)
   (.seq
    (.reg [] [⟨some 39,.mov (.tmp 3),none⟩,
     ⟨some 2,.mov (.tmp 39),none⟩])
    .ret)
   .skip)))
  (.seq
  (.reg [] [⟨some 4,.mov (.cst (.d (.int .i64 0))),none⟩])
  (.seq
   (.seq
   (.reg [] [⟨some 40,.fad 21 (.tmp 1),none⟩,
    ⟨some 41,.ld false 1 (.tmp 40),none⟩,
    ⟨some 42,.len (.tmp 41),none⟩,
    ⟨some 43,.mov (.cst (.d (.int .i64 0))),none⟩])
   (.post [] [0,1,2]
    (.block 0
    (.keep [4,41,42,43] [0,1]
     (.loop
     (.post [4,41,42,43] [2]
      (.seq
      (.reg [] [⟨some 44,.cmp .lss (.tmp 43) (.tmp 42),none⟩])
      (.seq
       (.cond (.tmp 44)
       .skip
       (.exit 0))
       (.seq
       (.block 1
        (.seq
        (.reg [] [⟨some 45,.ixa 1 (.tmp 41) (.tmp 43),none⟩,
         ⟨some 46,.ld false 1 (.tmp 45),none⟩,
         ⟨some 6,.mov (.tmp 46),none⟩])
        (.seq
         (.seq
         (.reg [2] [⟨some 47,.mov (.tmp 6),none⟩,
          ⟨some 48,.call 91 [(.tmp 47),(.cst (.d (.int .i64 1))),(.cst (.d (.int .i64 999999999)))],none⟩,
          ⟨some 49,.mov (.tmp 6),none⟩,
          ⟨some 50,.mov (.tmp 4),none⟩,
          ⟨some 51,.cmp .leq (.tmp 49) (.tmp 50),none⟩,
          ⟨some 52,.call 92 [(.tmp 51),(.cst (.d (.int .i64 11)))],none⟩,
          ⟨some 53,.bsl 2 30 1 2 [(.int .i64 0),(.int .i64 0)] [(0,(.tmp 48)),(1,(.tmp 52))],none⟩,
          ⟨some 54,.call 90 [(.tmp 53)],none⟩,
          ⟨some 7,.mov (.tmp 54),none⟩])
         (.seq
          (.reg [] [⟨some 55,.mov (.tmp 7),none⟩,
           ⟨some 56,.cmp .neq (.tmp 55) (.cst (.d (.int .i64 0))),none⟩])
          (.cond (.tmp 56)
          (.seq
           (.reg [] [⟨some 57,.mov (.tmp 7),none⟩,
            ⟨some 2,.mov (.tmp 57),none⟩])
           .ret)
          .skip)))
         (.reg [] [⟨some 58,.mov (.tmp 6),none⟩,
          ⟨some 4,.mov (.tmp 58),none⟩]))))
       (.reg [] [⟨some 59,.arith .add .i64 (.tmp 43) (.cst (.d (.int .i64 1))),none⟩,
        ⟨some 43,.mov (.tmp 59),none⟩]))))))))))
   (.seq
   (.reg [] [⟨some 2,.mov (.cst (.d (.int .i64 0))),none⟩])
   .ret)))))⟩
theorem bne_t {x:Int} (h:¬ x=0):(x != 0)=true:=by simpa using h
structure Kl where
 k:Nat
 l:Int
end Vc
