import Derived.Test.YthociffnlhdenaaGreatDoorG11
set_option linter.unusedSectionVars false
set_option linter.unusedVariables false
set_option linter.unusedSimpArgs false
set_option maxRecDepth 10000
set_option maxHeartbeats 4000000
namespace Vc
open Go Go.Proofs
def En.same (x y:En):Bool:=x.nu==y.nu&&(x.di==y.di&&(x.ne==y.ne&&true))
def ir105:AFun:=⟨73,5,[.tmp 6],
 (.seq
 (.reg [0,1] [⟨some 3,.cbx 0 3 (.tmp 0),none⟩,
 ⟨some 4,.cbx 1 2 (.tmp 1),none⟩,
 ⟨some 6,.mov (.cst (.d (.int .i64 0))),none⟩])
 (.seq
 (.reg [2] [⟨some 9,.fad 2 (.tmp 3),none⟩,
 ⟨some 10,.ld false 1 (.tmp 9),none⟩,
 ⟨some 11,.mov (.tmp 2),none⟩,
 ⟨some 12,.ixa 3 (.tmp 10) (.tmp 11),none⟩,
 ⟨some 13,.ld true 3 (.tmp 12),none⟩,
 ⟨some 7,.alloc 2 [(.d (.int .i64 0)),(.d (.int .i64 0)),(.d (.int .i64 0))],none⟩,
 ⟨none,.st 3 (.tmp 7) (.tmp 13),none⟩])
 (.seq
 (.seq
 (.regd [3] [⟨some 14,.fad 0 (.tmp 7),none⟩,
 ⟨some 15,.ld false 1 (.tmp 14),none⟩,
 ⟨some 16,.fad 1 (.tmp 3),none⟩,
 ⟨some 17,.ld false 1 (.tmp 16),none⟩,
 ⟨some 18,.call 104 [(.tmp 15),(.cst (.d (.int .i64 0))),(.tmp 17)],none⟩,
 ⟨some 19,.fad 1 (.tmp 7),none⟩,
 ⟨some 20,.ld false 1 (.tmp 19),none⟩,
 ⟨some 21,.call 104 [(.tmp 20),(.cst (.d (.int .i64 0))),(.cst (.d (.int .i64 3200)))],none⟩,
 ⟨some 22,.fad 2 (.tmp 7),none⟩,
 ⟨some 23,.ld false 1 (.tmp 22),none⟩,
 ⟨some 24,.cmp .lss (.tmp 23) (.cst (.d (.int .i64 (-1)))),none⟩,
 ⟨some 25,.mov (.tmp 24),none⟩,
 ⟨some 26,.fad 2 (.tmp 7),some (25,false)⟩,
 ⟨some 27,.ld false 1 (.tmp 26),some (25,false)⟩,
 ⟨some 28,.fad 0 (.tmp 4),some (25,false)⟩,
 ⟨some 29,.ld false 1 (.tmp 28),some (25,false)⟩,
 ⟨some 30,.len (.tmp 29),some (25,false)⟩,
 ⟨some 31,.cmp .geq (.tmp 27) (.tmp 30),some (25,false)⟩,
 ⟨some 32,.pick (.tmp 25) (.cst (.d (.bool true))) (.tmp 31),none⟩,
 ⟨some 33,.call 89 [(.tmp 32),(.cst (.d (.int .i64 10)))],none⟩,
 ⟨some 34,.bsl 3 29 1 3 [(.int .i64 0),(.int .i64 0),(.int .i64 0)] [(0,(.tmp 18)),(1,(.tmp 21)),(2,(.tmp 33))],none⟩,
 ⟨some 35,.call 86 [(.tmp 34)],none⟩,
 ⟨some 8,.mov (.tmp 35),none⟩] [(0,2),(1,2),(0,3),(1,3),(0,5),(1,5),(2,5),(3,5),(4,5),(0,6),(1,6),(2,6),(3,6),(4,6),(0,8),(1,8),(2,8),(3,8),(4,8),(5,8),(6,8),(7,8),(0,9),(1,9),(2,9),(3,9),(4,9),(5,9),(6,9),(7,9),(0,10),(1,10),(2,10),(3,10),(4,10),(5,10),(6,10),(7,10),(12,14),(13,14),(12,15),(13,15),(12,16),(13,16)])
 (.seq
 (.reg [] [⟨some 36,.mov (.tmp 8),none⟩,
 ⟨some 37,.cmp .neq (.tmp 36) (.cst (.d (.int .i64 0))),none⟩])
 (.cond (.tmp 37)
 (.seq
 (.reg [] [⟨some 38,.mov (.tmp 8),none⟩,
 ⟨some 6,.mov (.tmp 38),none⟩])
 .ret)
 .skip)))
 (.seq
 (.seq
 (.reg [] [⟨some 39,.mov (.tmp 2),none⟩,
 ⟨some 40,.fad 0 (.tmp 3),none⟩,
 ⟨some 41,.ld false 1 (.tmp 40),none⟩,
 ⟨some 42,.cmp .eql (.tmp 39) (.tmp 41),none⟩])
 (.cond (.tmp 42)
 (.seq
 (.reg [] [⟨some 43,.ld true 3 (.tmp 7),none⟩,
 ⟨some 44,.fad 1 (.tmp 3),none⟩,
 ⟨some 45,.ld false 1 (.tmp 44),none⟩,
 ⟨some 46,.mov (.tmp 2),none⟩,
 ⟨some 47,.build [(.d (.int .i64 0)),(.d (.int .i64 0)),(.d (.int .i64 0))] [(0,1,(.tmp 45)),(1,1,(.cst (.d (.int .i64 0)))),(2,1,(.tmp 46))],none⟩,
 ⟨some 48,.aeq true [0,0,0] (.tmp 43) (.tmp 47),none⟩,
 ⟨some 49,.call 89 [(.tmp 48),(.cst (.d (.int .i64 1)))],none⟩,
 ⟨some 6,.mov (.tmp 49),none⟩])
 .ret)
 .skip))
 (.seq
 (.regd [4] [⟨some 50,.fad 0 (.tmp 7),none⟩,
 ⟨some 51,.ld false 1 (.tmp 50),none⟩,
 ⟨some 52,.cmp .eql (.tmp 51) (.cst (.d (.int .i64 0))),none⟩,
 ⟨some 53,.mov (.tmp 52),none⟩,
 ⟨some 54,.ld true 3 (.tmp 7),some (53,true)⟩,
 ⟨some 55,.ld true 3 (.cst (.gp 0 0)),some (53,true)⟩,
 ⟨some 56,.aeq true [0,0,0] (.tmp 54) (.tmp 55),some (53,true)⟩,
 ⟨some 57,.pick (.tmp 53) (.tmp 56) (.cst (.d (.bool false))),none⟩,
 ⟨some 58,.call 89 [(.tmp 57),(.cst (.d (.int .i64 1)))],none⟩,
 ⟨some 59,.fad 2 (.tmp 7),none⟩,
 ⟨some 60,.ld false 1 (.tmp 59),none⟩,
 ⟨some 61,.cmp .neq (.tmp 60) (.cst (.d (.int .i64 (-1)))),none⟩,
 ⟨some 62,.mov (.tmp 61),none⟩,
 ⟨some 63,.ld true 2 (.tmp 4),some (62,true)⟩,
 ⟨some 64,.mov (.tmp 2),some (62,true)⟩,
 ⟨some 65,.fad 2 (.tmp 7),some (62,true)⟩,
 ⟨some 66,.ld false 1 (.tmp 65),some (62,true)⟩,
 ⟨some 67,.call 91 [(.tmp 63),(.tmp 64),(.tmp 66)],some (62,true)⟩,
 ⟨some 68,.cmp .eql (.tmp 67) (.cst (.d (.int .i64 0))),some (62,true)⟩,
 ⟨some 69,.pick (.tmp 62) (.tmp 68) (.cst (.d (.bool false))),none⟩,
 ⟨some 70,.call 89 [(.tmp 69),(.cst (.d (.int .i64 7)))],none⟩,
 ⟨some 71,.bsl 4 29 1 2 [(.int .i64 0),(.int .i64 0)] [(0,(.tmp 58)),(1,(.tmp 70))],none⟩,
 ⟨some 72,.call 86 [(.tmp 71)],none⟩,
 ⟨some 6,.mov (.tmp 72),none⟩] [(4,5),(0,9),(1,9),(2,9),(3,9),(4,9),(5,9),(6,9),(7,9),(8,9),(0,10),(1,10),(2,10),(3,10),(4,10),(5,10),(6,10),(7,10),(8,10),(0,11),(1,11),(2,11),(3,11),(4,11),(5,11),(6,11),(7,11),(8,11),(13,14),(13,15),(14,15),(13,16),(14,16)])
 .ret)))))⟩
def ir34:AFun:=⟨124,5,[.tmp 4],
 (.seq
 (.reg [0,1] [⟨some 2,.cbx 0 2 (.tmp 0),none⟩,
 ⟨some 3,.cbx 1 3 (.tmp 1),none⟩,
 ⟨some 4,.mov (.cst (.d (.int .i64 0))),none⟩])
 (.seq
 (.seq
 (.regd [2] [⟨some 10,.ld true 2 (.tmp 2),none⟩,
 ⟨some 11,.call 22 [(.tmp 10)],none⟩,
 ⟨some 12,.ld true 2 (.tmp 2),none⟩,
 ⟨some 13,.fad 0 (.tmp 3),none⟩,
 ⟨some 14,.ld false 1 (.tmp 13),none⟩,
 ⟨some 15,.call 23 [(.tmp 12),(.tmp 14)],none⟩,
 ⟨some 16,.fad 1 (.tmp 3),none⟩,
 ⟨some 17,.ld false 1 (.tmp 16),none⟩,
 ⟨some 18,.call 101 [(.tmp 17),(.cst (.d (.int .i64 1))),(.cst (.d (.int .i64 1000000)))],none⟩,
 ⟨some 19,.fad 2 (.tmp 3),none⟩,
 ⟨some 20,.ld false 1 (.tmp 19),none⟩,
 ⟨some 21,.len (.tmp 20),none⟩,
 ⟨some 22,.fad 0 (.tmp 2),none⟩,
 ⟨some 23,.ld false 1 (.tmp 22),none⟩,
 ⟨some 24,.len (.tmp 23),none⟩,
 ⟨some 25,.cmp .neq (.tmp 21) (.tmp 24),none⟩,
 ⟨some 26,.call 49 [(.tmp 25),(.cst (.d (.int .i64 2)))],none⟩,
 ⟨some 27,.bsl 2 3 1 4 [(.int .i64 0),(.int .i64 0),(.int .i64 0),(.int .i64 0)] [(0,(.tmp 11)),(1,(.tmp 15)),(2,(.tmp 18)),(3,(.tmp 26))],none⟩,
 ⟨some 28,.call 100 [(.tmp 27)],none⟩,
 ⟨some 5,.mov (.tmp 28),none⟩] [(0,2),(1,2),(0,3),(1,3),(2,3),(0,4),(1,4),(2,4),(0,6),(1,6),(2,6),(3,6),(4,6),(5,6),(0,7),(1,7),(2,7),(3,7),(4,7),(5,7),(0,9),(1,9),(2,9),(3,9),(4,9),(5,9),(6,9),(7,9),(8,9),(0,10),(1,10),(2,10),(3,10),(4,10),(5,10),(6,10),(7,10),(8,10),(0,11),(1,11),(2,11),(3,11),(4,11),(5,11),(6,11),(7,11),(8,11),(0,12),(1,12),(2,12),(3,12),(4,12),(5,12),(6,12),(7,12),(8,12),(9,12),(10,12),(11,12),(0,13),(1,13),(2,13),(3,13),(4,13),(5,13),(6,13),(7,13),(8,13),(9,13),(10,13),(11,13),(0,14),(1,14),(2,14),(3,14),(4,14),(5,14),(6,14),(7,14),(8,14),(9,14),(10,14),(11,14),(0,15),(1,15),(2,15),(3,15),(4,15),(5,15),(6,15),(7,15),(8,15)])
 (.seq
 (.reg [] [⟨some 29,.mov (.tmp 5),none⟩,
 ⟨some 30,.cmp .neq (.tmp 29) (.cst (.d (.int .i64 0))),none⟩])
 (.cond (.tmp 30)
 (.seq
 (.reg [] [⟨some 31,.mov (.tmp 5),none⟩,
 ⟨some 4,.mov (.tmp 31),none⟩])
 .ret)
 .skip)))
 (.seq
 (.seq
 (.reg [] [⟨some 6,.mov (.cst (.d (.int .i64 0))),none⟩])
 (.post [2,3] [0,1,2,3,4]
 (.block 0
 (.keep [2,3,6] [0,1,2]
 (.loop
 (.post [2,3,6] [3,4]
 (.seq
 (.seq
 (.reg [] [⟨some 32,.mov (.tmp 6),none⟩,
 ⟨some 33,.fad 2 (.tmp 3),none⟩,
 ⟨some 34,.ld false 1 (.tmp 33),none⟩,
 ⟨some 35,.len (.tmp 34),none⟩,
 ⟨some 36,.cmp .lss (.tmp 32) (.tmp 35),none⟩])
 (.cond (.tmp 36)
 .skip
 (.exit 0)))
 (.seq
 (.block 1
 (.seq
 (.reg [3] [⟨some 39,.fad 2 (.tmp 3),none⟩,
 ⟨some 40,.ld false 1 (.tmp 39),none⟩,
 ⟨some 41,.mov (.tmp 6),none⟩,
 ⟨some 42,.ixa 3 (.tmp 40) (.tmp 41),none⟩,
 ⟨some 43,.ld true 3 (.tmp 42),none⟩,
 ⟨some 7,.alloc 3 [(.d (.int .i64 0)),(.d (.int .i64 0)),(.d (.int .i64 0))],none⟩,
 ⟨none,.st 3 (.tmp 7) (.tmp 43),none⟩])
 (.seq
 (.seq
 (.regd [4] [⟨some 44,.fad 0 (.tmp 7),none⟩,
 ⟨some 45,.ld false 1 (.tmp 44),none⟩,
 ⟨some 46,.fad 1 (.tmp 3),none⟩,
 ⟨some 47,.ld false 1 (.tmp 46),none⟩,
 ⟨some 48,.call 101 [(.tmp 45),(.cst (.d (.int .i64 0))),(.tmp 47)],none⟩,
 ⟨some 49,.fad 1 (.tmp 7),none⟩,
 ⟨some 50,.ld false 1 (.tmp 49),none⟩,
 ⟨some 51,.call 101 [(.tmp 50),(.cst (.d (.int .i64 0))),(.cst (.d (.int .i64 3200)))],none⟩,
 ⟨some 52,.fad 2 (.tmp 7),none⟩,
 ⟨some 53,.ld false 1 (.tmp 52),none⟩,
 ⟨some 54,.cmp .neq (.tmp 53) (.cst (.d (.int .i64 (-1)))),none⟩,
 ⟨some 55,.mov (.tmp 54),none⟩,
 ⟨some 56,.ld true 2 (.tmp 2),some (55,true)⟩,
 ⟨some 57,.fad 2 (.tmp 7),some (55,true)⟩,
 ⟨some 58,.ld false 1 (.tmp 57),some (55,true)⟩,
 ⟨some 59,.call 95 [(.tmp 56),(.tmp 58)],some (55,true)⟩,
 ⟨some 60,.not (.tmp 59),some (55,true)⟩,
 ⟨some 61,.pick (.tmp 55) (.tmp 60) (.cst (.d (.bool false))),none⟩,
 ⟨some 62,.call 49 [(.tmp 61),(.cst (.d (.int .i64 10)))],none⟩,
 ⟨some 63,.bsl 4 3 1 3 [(.int .i64 0),(.int .i64 0),(.int .i64 0)] [(0,(.tmp 48)),(1,(.tmp 51)),(2,(.tmp 62))],none⟩,
 ⟨some 64,.call 100 [(.tmp 63)],none⟩,
 ⟨some 8,.mov (.tmp 64),none⟩] [(0,2),(1,2),(0,3),(1,3),(0,5),(1,5),(2,5),(3,5),(4,5),(0,6),(1,6),(2,6),(3,6),(4,6),(0,8),(1,8),(2,8),(3,8),(4,8),(5,8),(6,8),(7,8),(0,9),(1,9),(2,9),(3,9),(4,9),(5,9),(6,9),(7,9),(0,10),(1,10),(2,10),(3,10),(4,10),(5,10),(6,10),(7,10),(12,13),(12,14)])
 (.seq
 (.reg [] [⟨some 65,.mov (.tmp 8),none⟩,
 ⟨some 66,.cmp .neq (.tmp 65) (.cst (.d (.int .i64 0))),none⟩])
 (.cond (.tmp 66)
 (.seq
 (.reg [] [⟨some 67,.mov (.tmp 8),none⟩,
 ⟨some 4,.mov (.tmp 67),none⟩])
 .ret)
 .skip)))
 (.seq
 (.seq
 (.reg [] [⟨some 68,.mov (.tmp 6),none⟩,
 ⟨some 69,.fad 0 (.tmp 3),none⟩,
 ⟨some 70,.ld false 1 (.tmp 69),none⟩,
 ⟨some 71,.cmp .eql (.tmp 68) (.tmp 70),none⟩])
 (.cond (.tmp 71)
 (.seq
 (.seq
 (.reg [] [⟨some 72,.fad 0 (.tmp 7),none⟩,
 ⟨some 73,.ld false 1 (.tmp 72),none⟩,
 ⟨some 74,.fad 1 (.tmp 3),none⟩,
 ⟨some 75,.ld false 1 (.tmp 74),none⟩,
 ⟨some 76,.cmp .neq (.tmp 73) (.tmp 75),none⟩,
 ⟨some 77,.mov (.tmp 76),none⟩,
 ⟨some 78,.fad 1 (.tmp 7),some (77,false)⟩,
 ⟨some 79,.ld false 1 (.tmp 78),some (77,false)⟩,
 ⟨some 80,.cmp .neq (.tmp 79) (.cst (.d (.int .i64 0))),some (77,false)⟩,
 ⟨some 81,.pick (.tmp 77) (.cst (.d (.bool true))) (.tmp 80),none⟩,
 ⟨some 82,.mov (.tmp 81),none⟩,
 ⟨some 83,.fad 2 (.tmp 7),some (82,false)⟩,
 ⟨some 84,.ld false 1 (.tmp 83),some (82,false)⟩,
 ⟨some 85,.mov (.tmp 6),some (82,false)⟩,
 ⟨some 86,.cmp .neq (.tmp 84) (.tmp 85),some (82,false)⟩,
 ⟨some 87,.pick (.tmp 82) (.cst (.d (.bool true))) (.tmp 86),none⟩])
 (.cond (.tmp 87)
 (.seq
 (.reg [] [⟨some 4,.mov (.cst (.d (.int .i64 1))),none⟩])
 .ret)
 .skip))
 (.exit 1))
 .skip))
 (.seq
 (.seq
 (.reg [] [⟨some 88,.fad 0 (.tmp 7),none⟩,
 ⟨some 89,.ld false 1 (.tmp 88),none⟩,
 ⟨some 90,.cmp .eql (.tmp 89) (.cst (.d (.int .i64 0))),none⟩,
 ⟨some 91,.mov (.tmp 90),none⟩,
 ⟨some 92,.fad 1 (.tmp 7),some (91,true)⟩,
 ⟨some 93,.ld false 1 (.tmp 92),some (91,true)⟩,
 ⟨some 94,.cmp .neq (.tmp 93) (.cst (.d (.int .i64 0))),some (91,true)⟩,
 ⟨some 95,.mov (.tmp 94),some (91,true)⟩,
 ⟨some 96,.fad 2 (.tmp 7),some (95,false)⟩,
 ⟨some 97,.ld false 1 (.tmp 96),some (95,false)⟩,
 ⟨some 98,.cmp .neq (.tmp 97) (.cst (.d (.int .i64 (-1)))),some (95,false)⟩,
 ⟨some 99,.pick (.tmp 95) (.cst (.d (.bool true))) (.tmp 98),some (91,true)⟩,
 ⟨some 100,.pick (.tmp 91) (.tmp 99) (.cst (.d (.bool false))),none⟩])
 (.cond (.tmp 100)
 (.seq
 (.reg [] [⟨some 4,.mov (.cst (.d (.int .i64 1))),none⟩])
 .ret)
 .skip))
 (.seq
 (.reg [] [⟨some 101,.fad 2 (.tmp 7),none⟩,
 ⟨some 102,.ld false 1 (.tmp 101),none⟩,
 ⟨some 103,.cmp .geq (.tmp 102) (.cst (.d (.int .i64 0))),none⟩,
 ⟨some 104,.mov (.tmp 103),none⟩,
 ⟨some 105,.ld true 2 (.tmp 2),some (104,true)⟩,
 ⟨some 106,.mov (.tmp 6),some (104,true)⟩,
 ⟨some 107,.fad 2 (.tmp 7),some (104,true)⟩,
 ⟨some 108,.ld false 1 (.tmp 107),some (104,true)⟩,
 ⟨some 109,.call 67 [(.tmp 105),(.tmp 106),(.tmp 108)],some (104,true)⟩,
 ⟨some 110,.cmp .eql (.tmp 109) (.cst (.d (.int .i64 0))),some (104,true)⟩,
 ⟨some 111,.pick (.tmp 104) (.tmp 110) (.cst (.d (.bool false))),none⟩])
 (.cond (.tmp 111)
 (.seq
 (.reg [] [⟨some 4,.mov (.cst (.d (.int .i64 7))),none⟩])
 .ret)
 .skip)))))))
 (.reg [] [⟨some 37,.mov (.tmp 6),none⟩,
 ⟨some 38,.arith .add .i64 (.tmp 37) (.cst (.d (.int .i64 1))),none⟩,
 ⟨some 6,.mov (.tmp 38),none⟩])))))))))
 (.seq
 (.seq
 (.reg [] [⟨some 9,.mov (.cst (.d (.int .i64 0))),none⟩])
 (.post [] [0,1,2,3,4]
 (.block 2
 (.keep [2,3,9] [0,1,2,3,4]
 (.loop
 (.post [2,3,9] []
 (.seq
 (.seq
 (.reg [] [⟨some 112,.mov (.tmp 9),none⟩,
 ⟨some 113,.fad 2 (.tmp 3),none⟩,
 ⟨some 114,.ld false 1 (.tmp 113),none⟩,
 ⟨some 115,.len (.tmp 114),none⟩,
 ⟨some 116,.cmp .lss (.tmp 112) (.tmp 115),none⟩])
 (.cond (.tmp 116)
 .skip
 (.exit 2)))
 (.seq
 (.block 3
 (.seq
 (.reg [] [⟨some 119,.ld true 2 (.tmp 2),none⟩,
 ⟨some 120,.ld true 3 (.tmp 3),none⟩,
 ⟨some 121,.mov (.tmp 9),none⟩,
 ⟨some 122,.call 102 [(.tmp 119),(.tmp 120),(.tmp 121)],none⟩,
 ⟨some 123,.not (.tmp 122),none⟩])
 (.cond (.tmp 123)
 (.seq
 (.reg [] [⟨some 4,.mov (.cst (.d (.int .i64 33))),none⟩])
 .ret)
 .skip)))
 (.reg [] [⟨some 117,.mov (.tmp 9),none⟩,
 ⟨some 118,.arith .add .i64 (.tmp 117) (.cst (.d (.int .i64 1))),none⟩,
 ⟨some 9,.mov (.tmp 118),none⟩])))))))))
 (.seq
 (.reg [] [⟨some 4,.mov (.cst (.d (.int .i64 0))),none⟩])
 .ret)))))⟩
def ir37:AFun:=⟨57,3,[.tmp 4],
 (.seq
 (.reg [0,1] [⟨some 2,.cbx 0 2 (.tmp 0),none⟩,
 ⟨some 3,.cbx 1 3 (.tmp 1),none⟩,
 ⟨some 4,.mov (.cst (.d (.int .i64 0))),none⟩])
 (.seq
 (.seq
 (.regd [2] [⟨some 9,.ld true 2 (.tmp 2),none⟩,
 ⟨some 10,.call 27 [(.tmp 9)],none⟩,
 ⟨some 11,.ld true 2 (.tmp 2),none⟩,
 ⟨some 12,.fad 0 (.tmp 3),none⟩,
 ⟨some 13,.ld false 1 (.tmp 12),none⟩,
 ⟨some 14,.call 87 [(.tmp 11),(.tmp 13)],none⟩,
 ⟨some 15,.fad 1 (.tmp 3),none⟩,
 ⟨some 16,.ld false 1 (.tmp 15),none⟩,
 ⟨some 17,.call 104 [(.tmp 16),(.cst (.d (.int .i64 1))),(.cst (.d (.int .i64 1000000)))],none⟩,
 ⟨some 18,.fad 2 (.tmp 3),none⟩,
 ⟨some 19,.ld false 1 (.tmp 18),none⟩,
 ⟨some 20,.len (.tmp 19),none⟩,
 ⟨some 21,.fad 0 (.tmp 2),none⟩,
 ⟨some 22,.ld false 1 (.tmp 21),none⟩,
 ⟨some 23,.len (.tmp 22),none⟩,
 ⟨some 24,.cmp .neq (.tmp 20) (.tmp 23),none⟩,
 ⟨some 25,.call 89 [(.tmp 24),(.cst (.d (.int .i64 2)))],none⟩,
 ⟨some 26,.bsl 2 29 1 4 [(.int .i64 0),(.int .i64 0),(.int .i64 0),(.int .i64 0)] [(0,(.tmp 10)),(1,(.tmp 14)),(2,(.tmp 17)),(3,(.tmp 25))],none⟩,
 ⟨some 27,.call 86 [(.tmp 26)],none⟩,
 ⟨some 5,.mov (.tmp 27),none⟩] [(0,2),(1,2),(0,3),(1,3),(2,3),(0,4),(1,4),(2,4),(0,6),(1,6),(2,6),(3,6),(4,6),(5,6),(0,7),(1,7),(2,7),(3,7),(4,7),(5,7),(0,9),(1,9),(2,9),(3,9),(4,9),(5,9),(6,9),(7,9),(8,9),(0,10),(1,10),(2,10),(3,10),(4,10),(5,10),(6,10),(7,10),(8,10),(0,11),(1,11),(2,11),(3,11),(4,11),(5,11),(6,11),(7,11),(8,11),(0,12),(1,12),(2,12),(3,12),(4,12),(5,12),(6,12),(7,12),(8,12),(9,12),(10,12),(11,12),(0,13),(1,13),(2,13),(3,13),(4,13),(5,13),(6,13),(7,13),(8,13),(9,13),(10,13),(11,13),(0,14),(1,14),(2,14),(3,14),(4,14),(5,14),(6,14),(7,14),(8,14),(9,14),(10,14),(11,14),(0,15),(1,15),(2,15),(3,15),(4,15),(5,15),(6,15),(7,15),(8,15)])
 (.seq
 (.reg [] [⟨some 28,.mov (.tmp 5),none⟩,
 ⟨some 29,.cmp .neq (.tmp 28) (.cst (.d (.int .i64 0))),none⟩])
 (.cond (.tmp 29)
 (.seq
 (.reg [] [⟨some 30,.mov (.tmp 5),none⟩,
 ⟨some 4,.mov (.tmp 30),none⟩])
 .ret)
 .skip)))
 (.seq
 (.seq
 (.reg [] [⟨some 31,.fad 2 (.tmp 3),none⟩,
 ⟨some 32,.ld false 1 (.tmp 31),none⟩,
 ⟨some 33,.len (.tmp 32),none⟩,
 ⟨some 34,.mov (.cst (.d (.int .i64 0))),none⟩])
 (.post [2,3] [0,1,2]
 (.block 0
 (.keep [2,3,33,34] [0,1,2]
 (.loop
 (.post [2,3,33,34] []
 (.seq
 (.reg [] [⟨some 35,.cmp .lss (.tmp 34) (.tmp 33),none⟩])
 (.seq
 (.cond (.tmp 35)
 .skip
 (.exit 0))
 (.seq
 (.block 1
 (.seq
 (.reg [] [⟨some 36,.mov (.tmp 34),none⟩,
 ⟨some 6,.mov (.tmp 36),none⟩])
 (.seq
 (.reg [] [⟨some 37,.ld true 3 (.tmp 3),none⟩,
 ⟨some 38,.ld true 2 (.tmp 2),none⟩,
 ⟨some 39,.mov (.tmp 6),none⟩,
 ⟨some 40,.call 105 [(.tmp 37),(.tmp 38),(.tmp 39)],none⟩,
 ⟨some 7,.mov (.tmp 40),none⟩])
 (.seq
 (.reg [] [⟨some 41,.mov (.tmp 7),none⟩,
 ⟨some 42,.cmp .neq (.tmp 41) (.cst (.d (.int .i64 0))),none⟩])
 (.cond (.tmp 42)
 (.seq
 (.reg [] [⟨some 43,.mov (.tmp 7),none⟩,
 ⟨some 4,.mov (.tmp 43),none⟩])
 .ret)
 .skip)))))
 (.reg [] [⟨some 44,.arith .add .i64 (.tmp 34) (.cst (.d (.int .i64 1))),none⟩,
 ⟨some 34,.mov (.tmp 44),none⟩]))))))))))
 (.seq
 (.seq
 (.reg [] [⟨some 45,.fad 2 (.tmp 3),none⟩,
 ⟨some 46,.ld false 1 (.tmp 45),none⟩,
 ⟨some 47,.len (.tmp 46),none⟩,
 ⟨some 48,.mov (.cst (.d (.int .i64 0))),none⟩])
 (.post [] [0,1,2]
 (.block 2
 (.keep [2,3,47,48] [0,1,2]
 (.loop
 (.post [2,3,47,48] []
 (.seq
 (.reg [] [⟨some 49,.cmp .lss (.tmp 48) (.tmp 47),none⟩])
 (.seq
 (.cond (.tmp 49)
 .skip
 (.exit 2))
 (.seq
 (.block 3
 (.seq
 (.reg [] [⟨some 50,.mov (.tmp 48),none⟩,
 ⟨some 8,.mov (.tmp 50),none⟩])
 (.seq
 (.reg [] [⟨some 51,.ld true 3 (.tmp 3),none⟩,
 ⟨some 52,.ld true 2 (.tmp 2),none⟩,
 ⟨some 53,.mov (.tmp 8),none⟩,
 ⟨some 54,.call 106 [(.tmp 51),(.tmp 52),(.tmp 53)],none⟩,
 ⟨some 55,.not (.tmp 54),none⟩])
 (.cond (.tmp 55)
 (.seq
 (.reg [] [⟨some 4,.mov (.cst (.d (.int .i64 33))),none⟩])
 .ret)
 .skip))))
 (.reg [] [⟨some 56,.arith .add .i64 (.tmp 48) (.cst (.d (.int .i64 1))),none⟩,
 ⟨some 48,.mov (.tmp 56),none⟩]))))))))))
 (.seq
 (.reg [] [⟨some 4,.mov (.cst (.d (.int .i64 0))),none⟩])
 .ret)))))⟩
def ir69:AFun:=⟨45,2,[.tmp 4],
 (.seq
 (.reg [0,1] [⟨some 2,.cbx 0 3 (.tmp 0),none⟩,
 ⟨some 3,.cbx 1 3 (.tmp 1),none⟩,
 ⟨some 4,.mov (.cst (.d (.bool false))),none⟩])
 (.seq
 (.seq
 (.reg [] [⟨some 6,.fad 0 (.tmp 2),none⟩,
 ⟨some 7,.ld false 1 (.tmp 6),none⟩,
 ⟨some 8,.fad 0 (.tmp 3),none⟩,
 ⟨some 9,.ld false 1 (.tmp 8),none⟩,
 ⟨some 10,.cmp .neq (.tmp 7) (.tmp 9),none⟩,
 ⟨some 11,.mov (.tmp 10),none⟩,
 ⟨some 12,.fad 1 (.tmp 2),some (11,false)⟩,
 ⟨some 13,.ld false 1 (.tmp 12),some (11,false)⟩,
 ⟨some 14,.fad 1 (.tmp 3),some (11,false)⟩,
 ⟨some 15,.ld false 1 (.tmp 14),some (11,false)⟩,
 ⟨some 16,.cmp .neq (.tmp 13) (.tmp 15),some (11,false)⟩,
 ⟨some 17,.pick (.tmp 11) (.cst (.d (.bool true))) (.tmp 16),none⟩,
 ⟨some 18,.mov (.tmp 17),none⟩,
 ⟨some 19,.fad 2 (.tmp 2),some (18,false)⟩,
 ⟨some 20,.ld false 1 (.tmp 19),some (18,false)⟩,
 ⟨some 21,.len (.tmp 20),some (18,false)⟩,
 ⟨some 22,.fad 2 (.tmp 3),some (18,false)⟩,
 ⟨some 23,.ld false 1 (.tmp 22),some (18,false)⟩,
 ⟨some 24,.len (.tmp 23),some (18,false)⟩,
 ⟨some 25,.cmp .neq (.tmp 21) (.tmp 24),some (18,false)⟩,
 ⟨some 26,.pick (.tmp 18) (.cst (.d (.bool true))) (.tmp 25),none⟩])
 (.cond (.tmp 26)
 (.seq
 (.reg [] [⟨some 4,.mov (.cst (.d (.bool false))),none⟩])
 .ret)
 .skip))
 (.seq
 (.seq
 (.reg [] [⟨some 5,.mov (.cst (.d (.int .i64 0))),none⟩])
 (.post [] [0,1]
 (.block 0
 (.keep [2,3,5] [0,1]
 (.loop
 (.post [2,3,5] []
 (.seq
 (.seq
 (.reg [] [⟨some 27,.mov (.tmp 5),none⟩,
 ⟨some 28,.fad 2 (.tmp 2),none⟩,
 ⟨some 29,.ld false 1 (.tmp 28),none⟩,
 ⟨some 30,.len (.tmp 29),none⟩,
 ⟨some 31,.cmp .lss (.tmp 27) (.tmp 30),none⟩])
 (.cond (.tmp 31)
 .skip
 (.exit 0)))
 (.seq
 (.block 1
 (.seq
 (.regd [] [⟨some 34,.fad 2 (.tmp 2),none⟩,
 ⟨some 35,.ld false 1 (.tmp 34),none⟩,
 ⟨some 36,.mov (.tmp 5),none⟩,
 ⟨some 37,.ixa 3 (.tmp 35) (.tmp 36),none⟩,
 ⟨some 38,.ld true 3 (.tmp 37),none⟩,
 ⟨some 39,.fad 2 (.tmp 3),none⟩,
 ⟨some 40,.ld false 1 (.tmp 39),none⟩,
 ⟨some 41,.mov (.tmp 5),none⟩,
 ⟨some 42,.ixa 3 (.tmp 40) (.tmp 41),none⟩,
 ⟨some 43,.ld true 3 (.tmp 42),none⟩,
 ⟨some 44,.aeq true [0,0,0] (.tmp 38) (.tmp 43),none⟩] [(0,2),(1,2),(0,5),(1,5),(2,5),(3,5),(4,5),(0,6),(1,6),(2,6),(3,6),(4,6),(0,7),(1,7),(2,7),(3,7),(4,7),(5,7),(6,7),(0,8),(1,8),(2,8),(3,8),(4,8),(0,9),(1,9),(2,9),(3,9),(4,9)])
 (.cond (.tmp 44)
 (.seq
 (.reg [] [⟨some 4,.mov (.cst (.d (.bool false))),none⟩])
 .ret)
 .skip)))
 (.reg [] [⟨some 32,.mov (.tmp 5),none⟩,
 ⟨some 33,.arith .add .i64 (.tmp 32) (.cst (.d (.int .i64 1))),none⟩,
 ⟨some 5,.mov (.tmp 33),none⟩])))))))))
 (.seq
 (.reg [] [⟨some 4,.mov (.cst (.d (.bool true))),none⟩])
 .ret))))⟩
def ir38:AFun:=⟨21,2,[.tmp 8],
 (.seq
 (.reg [0,1] [⟨some 4,.cbx 0 3 (.tmp 0),none⟩,
 ⟨some 7,.box 1 3 (.tmp 3),none⟩,
 ⟨some 8,.mov (.cst (.d (.bool false))),none⟩])
 (.seq
 (.seq
 (.reg [] [⟨some 9,.mov (.tmp 2),none⟩,
 ⟨some 10,.cmp .neq (.tmp 9) (.cst (.d (.int .i64 0))),none⟩])
 (.cond (.tmp 10)
 (.reg [] [⟨some 11,.build [(.d (.int .i64 0)),(.d (.int .i64 0)),(.nils 3)] [],none⟩,
 ⟨none,.st 3 (.tmp 7) (.tmp 11),none⟩])
 .skip))
 (.seq
 (.regd [] [⟨some 12,.ld true 3 (.tmp 4),none⟩,
 ⟨some 13,.call 59 [(.tmp 12)],none⟩,
 ⟨some 14,.ld true 3 (.tmp 7),none⟩,
 ⟨some 15,.call 69 [(.tmp 13),(.tmp 14)],none⟩,
 ⟨some 16,.mov (.tmp 15),none⟩,
 ⟨some 17,.mov (.tmp 1),some (16,true)⟩,
 ⟨some 18,.mov (.tmp 2),some (16,true)⟩,
 ⟨some 19,.cmp .eql (.tmp 17) (.tmp 18),some (16,true)⟩,
 ⟨some 20,.pick (.tmp 16) (.tmp 19) (.cst (.d (.bool false))),none⟩,
 ⟨some 8,.mov (.tmp 20),none⟩] [(0,2),(1,2),(5,6)])
 .ret)))⟩
def entH (m:Ms) (s:Sts) (x:En):Int:=firstOf [within3 x.nu 0 s.nu,within3 x.di 0 3200,bif decide (x.ne < -1)||decide ((m.ns.length:Int)≤x.ne) then 10 else 0]
def entE (m:Ms) (s:Sts) (n:Int) (x:En):Int :=
 bif entH m s x != 0 then entH m s x else bif n==s.co then (bif !(En.same x ⟨s.nu,0,n⟩) then 1 else 0)
 else firstOf [bif (x.nu==0)&&!(En.same x ⟨0,0,-1⟩) then 1 else 0,bif (x.ne != -1)&&(betw m.ls n x.ne==0) then 7 else 0]
theorem entE_bad {m:Ms} {s:Sts} {n v:Int} {x:En} (h:entH m s x=v) (hv:¬ v=0):entE m s n x=v:=by
 unfold entE
 rw [h,show (v != 0)=true by simpa using hv]; rfl
theorem entE_co {m:Ms} {s:Sts} {n v:Int} {x:En} (h:entH m s x=v) (hv:v=0) (hn:n=s.co):entE m s n x=bif !(En.same x ⟨s.nu,0,n⟩) then 1 else 0:=by
 unfold entE
 rw [h,hv,show (n==s.co)=true by simpa using hn]; rfl
theorem entE_no {m:Ms} {s:Sts} {n v:Int} {x:En} (h:entH m s x=v) (hv:v=0) (hn:¬ n=s.co) {a b:Int} (ha:(bif (x.nu==0)&&!(En.same x ⟨0,0,-1⟩) then 1 else 0)=a) (hb:(bif (x.ne != -1)&&(betw m.ls n x.ne==0) then 7 else 0)=b):entE m s n x=firstOf [a,b]:=by
 unfold entE
 rw [h,hv,show (n==s.co)=false by simpa using hn,ha,hb]; rfl
theorem ent_a0 {x:En} (h:¬ x.nu=0):(bif (x.nu==0)&&!(En.same x ⟨0,0,-1⟩) then 1 else 0:Int)=0:=by
 rw [show (x.nu==0)=false by simpa using h]; rfl
theorem ent_a1 {x:En} (h:x.nu=0):(bif (x.nu==0)&&!(En.same x ⟨0,0,-1⟩) then 1 else 0:Int)=bif !(En.same x ⟨0,0,-1⟩) then 1 else 0:=by
 rw [show (x.nu==0)=true by simpa using h]; rfl
theorem ent_b0 {x:En} {c:Int} (h:x.ne=-1):(bif (x.ne != -1)&&(c==0) then 7 else 0:Int)=0:=by
 rw [h]; rfl
theorem ent_b1 {x:En} {c:Int} (h:¬ x.ne=-1):(bif (x.ne != -1)&&(c==0) then 7 else 0:Int)=bif c==0 then 7 else 0:=by
 rw [show (x.ne != -1)=true by simpa using h]; rfl
theorem entH_1 {m:Ms} {s:Sts} {x:En} (h:x.ne < -1):entH m s x=firstOf [within3 x.nu 0 s.nu,within3 x.di 0 3200,10]:=by
 unfold entH; rw [decide_eq_true h]; rfl
theorem entH_2 {m:Ms} {s:Sts} {x:En} (h:¬ x.ne < -1):entH m s x=firstOf [within3 x.nu 0 s.nu,within3 x.di 0 3200,bif decide (((strs m.ns).length:Int)≤x.ne) then 10 else 0]:=by
 unfold entH; rw [decide_eq_false h,strs_len]; rfl
theorem c105 (m:Ms) (s:Sts) (n:Nat) (x:En) (hf:m.fine) (hx:s.es[n]?=some x):CallDet Tryz.prog 105 [.d s.d,.d m.d,.d (.int .i64 n)] [.int .i64 (entE m s n x)]:=by
 have hl:=ens_len s.es
 have hx2:=ens_at hx
 have hlt:=hf.l128
 have hcr:=hf.rng n x.ne
 have fin:∀ v,entE m s n x=v→resV [.int .i64 v]=resV [.int .i64 (entE m s n x)]:=fun v h=>by rw [h]
 refine call_of_vc (x:=ir105) (by kernel_rfl) rfl ?_
 by_cases h1:x.ne < -1
 ·have e:=entH_1 (m:=m) (s:=s) h1
  refine ix_at hx2 ?_ ?_
  (show (0:Int)≤(↑n:Int); omega)
  refine ca (c104 _ _ _) ?_
  refine ca (c104 _ _ _) ?_
  refine sd ?_
  refine b_lt (fun t1=>?_) (fun t1=>?_)
  refine sd ?_
  refine ca (c89 _ _) ?_
  refine sd ?_
  refine sd ?_
  refine ca (c86 [within3 (En.nu x) (0:Int) (Sts.nu s),within3 (En.di x) (0:Int) (3200:Int),(10:Int)] (by simp)) ?_
  refine sd ?_
  refine b_ne (fun t2=>?_) (fun t2=>?_)
  rotate_left
  refine sd ?_
  refine b_eq (fun t3=>?_) (fun t3=>?_)
  refine ca (Exists.intro _ (And.intro rfl rfl)) ?_
  refine ca (c89 _ _) ?_
  rotate_left
  refine sd ?_
  refine b_eq (fun t4=>?_) (fun t4=>?_)
  refine ca (Exists.intro _ (And.intro rfl rfl)) ?_
  refine ca (c89 _ _) ?_
  refine sd ?_
  refine b_ne (fun t5=>?_) (fun t5=>?_)
  refine ca (c91 m _ _ (by omega)) ?_
  refine sd ?_
  refine ca (c89 _ _) ?_
  refine sd ?_
  refine sd ?_
  refine ca (c86 [bif !(En.nu x==(0:Int)&&(En.di x==(0:Int)&&(En.ne x==(-1:Int)&&true))) then (1:Int) else (0:Int),bif betw (Ms.ls m) (↑n:Int) (En.ne x)==(0:Int) then (7:Int) else (0:Int)] (by simp)) ?_
  rotate_left
  (exfalso; omega)
  refine sd ?_
  refine ca (c89 _ _) ?_
  refine sd ?_
  refine b_ne (fun t6=>?_) (fun t6=>?_)
  refine ca (c91 m _ _ (by omega)) ?_
  refine sd ?_
  refine ca (c89 _ _) ?_
  refine sd ?_
  refine sd ?_
  refine ca (c86 [(0:Int),bif betw (Ms.ls m) (↑n:Int) (En.ne x)==(0:Int) then (7:Int) else (0:Int)] (by simp)) ?_
  rotate_left
  (exfalso; omega)
  (exfalso; omega)
  all_goals refine fin _ ?_
  all_goals first
   | exact entE_bad e ‹_›
   | exact entE_co e ‹_› ‹_›
   | exact entE_no e ‹_› ‹_› (ent_a0 ‹_›) (ent_b0 ‹_›)
   | exact entE_no e ‹_› ‹_› (ent_a0 ‹_›) (ent_b1 ‹_›)
   | exact entE_no e ‹_› ‹_› (ent_a1 ‹_›) (ent_b0 ‹_›)
   | exact entE_no e ‹_› ‹_› (ent_a1 ‹_›) (ent_b1 ‹_›)
 ·have e:=entH_2 (m:=m) (s:=s) h1
  refine ix_at hx2 ?_ ?_
  (show (0:Int)≤(↑n:Int); omega)
  refine ca (c104 _ _ _) ?_
  refine ca (c104 _ _ _) ?_
  refine sd ?_
  refine b_lt (fun t1=>?_) (fun t1=>?_)
  (exfalso; omega)
  refine sd ?_
  refine ca (c89 _ _) ?_
  refine sd ?_
  refine sd ?_
  refine ca (c86 [within3 (En.nu x) (0:Int) (Sts.nu s),within3 (En.di x) (0:Int) (3200:Int),bif decide ((↑(List.length (strs (Ms.ns m))):Int)≤En.ne x) then (10:Int) else (0:Int)] (by simp)) ?_
  refine sd ?_
  refine b_ne (fun t2=>?_) (fun t2=>?_)
  rotate_left
  refine sd ?_
  refine b_eq (fun t3=>?_) (fun t3=>?_)
  refine ca (Exists.intro _ (And.intro rfl rfl)) ?_
  refine ca (c89 _ _) ?_
  rotate_left
  refine sd ?_
  refine b_eq (fun t4=>?_) (fun t4=>?_)
  refine ca (Exists.intro _ (And.intro rfl rfl)) ?_
  refine ca (c89 _ _) ?_
  refine sd ?_
  refine b_ne (fun t5=>?_) (fun t5=>?_)
  refine ca (c91 m _ _ (by omega)) ?_
  refine sd ?_
  refine ca (c89 _ _) ?_
  refine sd ?_
  refine sd ?_
  refine ca (c86 [bif !(En.nu x==(0:Int)&&(En.di x==(0:Int)&&(En.ne x==(-1:Int)&&true))) then (1:Int) else (0:Int),bif betw (Ms.ls m) (↑n:Int) (En.ne x)==(0:Int) then (7:Int) else (0:Int)] (by simp)) ?_
  rotate_left
  refine sd ?_
  refine ca (c89 _ _) ?_
  refine sd ?_
  refine sd ?_
  refine ca (c86 [bif !(En.nu x==(0:Int)&&(En.di x==(0:Int)&&(En.ne x==(-1:Int)&&true))) then (1:Int) else (0:Int),(0:Int)] (by simp)) ?_
  rotate_left
  refine sd ?_
  refine ca (c89 _ _) ?_
  refine sd ?_
  refine b_ne (fun t6=>?_) (fun t6=>?_)
  refine ca (c91 m _ _ (by omega)) ?_
  refine sd ?_
  refine ca (c89 _ _) ?_
  refine sd ?_
  refine sd ?_
  refine ca (c86 [(0:Int),bif betw (Ms.ls m) (↑n:Int) (En.ne x)==(0:Int) then (7:Int) else (0:Int)] (by simp)) ?_
  rotate_left
  refine sd ?_
  refine ca (c89 _ _) ?_
  refine sd ?_
  refine sd ?_
  refine ca (c86 [(0:Int),(0:Int)] (by simp)) ?_
  rotate_left
  all_goals refine fin _ ?_
  all_goals first
   | exact entE_bad e ‹_›
   | exact entE_co e ‹_› ‹_›
   | exact entE_no e ‹_› ‹_› (ent_a0 ‹_›) (ent_b0 ‹_›)
   | exact entE_no e ‹_› ‹_› (ent_a0 ‹_›) (ent_b1 ‹_›)
   | exact entE_no e ‹_› ‹_› (ent_a1 ‹_›) (ent_b0 ‹_›)
   | exact entE_no e ‹_› ‹_› (ent_a1 ‹_›) (ent_b1 ‹_›)
def stH (m:Ms) (s:Sts):Int:=firstOf [m.chk,m.nodeE s.co,within3 s.nu 1 1000000,bif (s.es.length:Int) != (m.ns.length:Int) then 2 else 0]
def Ms.chkS (m:Ms) (s:Sts):Int:=bif stH m s != 0 then stH m s else bif scanE (fun pre x=>entE m s pre.length x) [] s.es != 0 then scanE (fun pre x=>entE m s pre.length x) [] s.es else
 bif scanE (fun pre x=>bif leads m s pre.length x then 0 else 33) [] s.es != 0 then 33 else 0
def sc1 (m:Ms) (s:Sts):List En→En→Int:=fun pre x=>entE m s pre.length x
def sc2 (m:Ms) (s:Sts):List En→En→Int:=fun pre x=>bif leads m s pre.length x then 0 else 33
theorem chkS_1 {m:Ms} {s:Sts} (h:¬ stH m s=0):m.chkS s=stH m s:=by
 unfold Ms.chkS
 rw [show (stH m s != 0)=true by simpa using h]; rfl
theorem chkS_2 {m:Ms} {s:Sts} {v:Int} (h:stH m s=0) (e:scanE (sc1 m s) [] s.es=v) (hv:(v != 0)=true):m.chkS s=v:=by
 have e2:scanE (fun pre x=>entE m s pre.length x) [] s.es=v:=e
 unfold Ms.chkS
 rw [h,e2,hv]; rfl
theorem chkS_3 {m:Ms} {s:Sts} (h:stH m s=0) (e:scanE (sc1 m s) [] s.es=0) (e2:scanE (sc2 m s) [] s.es=33):m.chkS s=33:=by
 have e1:scanE (fun pre x=>entE m s pre.length x) [] s.es=0:=e
 have e3:scanE (fun pre x=>bif leads m s pre.length x then 0 else 33) [] s.es=33:=e2
 unfold Ms.chkS
 rw [h,e1,e3]; rfl
theorem chkS_4 {m:Ms} {s:Sts} (h:stH m s=0) (e:scanE (sc1 m s) [] s.es=0) (e2:scanE (sc2 m s) [] s.es=0):m.chkS s=0:=by
 have e1:scanE (fun pre x=>entE m s pre.length x) [] s.es=0:=e
 have e3:scanE (fun pre x=>bif leads m s pre.length x then 0 else 33) [] s.es=0:=e2
 unfold Ms.chkS
 rw [h,e1,e3]; rfl
theorem sc1_at {m:Ms} {s:Sts} {k:Nat} (hk:k≤s.es.length) (x:En):sc1 m s (s.es.take k) x=entE m s k x:=by
 unfold sc1; rw [List.length_take,Nat.min_eq_left hk]
theorem sc2_at {m:Ms} {s:Sts} {k:Nat} (hk:k≤s.es.length) (x:En):sc2 m s (s.es.take k) x=bif leads m s k x then 0 else 33:=by
 unfold sc2; rw [List.length_take,Nat.min_eq_left hk]
theorem firstOf3 {a b c:Int} (h:firstOf [a,b,c]=0):a=0∧b=0∧c=0:=by
 have h1:=firstOf_zero h
 exact ⟨h1 a (by simp),h1 b (by simp),h1 c (by simp)⟩
theorem ent_ok {m:Ms} {s:Sts} {n:Int} {x:En} (h:entE m s n x=0):(0≤x.nu∧x.nu≤s.nu)∧(0≤x.di∧x.di≤3200)∧(-1≤x.ne∧x.ne < (m.ns.length:Int)):=by
 have h0:entH m s x=0:=Classical.byContradiction fun hn=>hn ((entE_bad rfl hn).symm.trans h)
 have h3:=firstOf3 h0
 refine ⟨within_ok h3.1,within_ok h3.2.1,?_⟩
 have h4:=h3.2.2
 cases hq:(decide (x.ne < -1)||decide ((m.ns.length:Int)≤x.ne))
 ·rw [Bool.or_eq_false_iff] at hq
  have a:=of_decide_eq_false hq.1
  have b:=of_decide_eq_false hq.2
  omega
 ·rw [hq] at h4; cases h4
structure Sts.fine (m:Ms) (s:Sts):Prop where
 mesh:m.fine
 co:0≤s.co∧s.co < (m.ns.length:Int)
 nu:1≤s.nu∧s.nu≤1000000
 len:s.es.length=m.ns.length
 ent:∀ (k:Nat) x,s.es[k]?=some x→entE m s k x=0
 lead:∀ (k:Nat) x,s.es[k]?=some x→leads m s k x=true
theorem stH_ok {m:Ms} {s:Sts} (h:stH m s=0):m.fine∧(0≤s.co∧s.co < (m.ns.length:Int))∧(1≤s.nu∧s.nu≤1000000)∧s.es.length=m.ns.length:=by
 have h1:=firstOf_zero h
 refine ⟨chk_fine (h1 m.chk (by simp)),node_in (h1 (m.nodeE s.co) (by simp)),within_ok (h1 (within3 s.nu 1 1000000) (by simp)),?_⟩
 have h2:=h1 (bif (s.es.length:Int) != (m.ns.length:Int) then 2 else 0) (by simp)
 cases hq:((s.es.length:Int) != (m.ns.length:Int))
 ·have:(s.es.length:Int)=(m.ns.length:Int):=by simpa using hq
  omega
 ·rw [hq] at h2; cases h2
theorem ent_all {m:Ms} {s:Sts} (h:scanE (sc1 m s) [] s.es=0) {k:Nat} {x:En} (hx:s.es[k]?=some x):entE m s k x=0:=by
 have hk:k < s.es.length:=(List.getElem?_eq_some_iff.1 hx).1
 rw [← sc1_at (by omega)]; exact scan_each h hx
theorem chkS_fine {m:Ms} {s:Sts} (h:m.chkS s=0):s.fine m:=by
 have h1:stH m s=0:=Classical.byContradiction fun hn=>hn ((chkS_1 hn).symm.trans h)
 have h2:scanE (sc1 m s) [] s.es=0:=Classical.byContradiction fun hn=>hn ((chkS_2 h1 rfl (by simpa using hn)).symm.trans h)
 have hk:=stH_ok h1
 refine ⟨hk.1,hk.2.1,hk.2.2.1,hk.2.2.2,fun k x hx=>ent_all h2 hx,fun k x hx=>?_⟩
 have h3:scanE (sc2 m s) [] s.es=0:=Classical.byContradiction fun hn=>by
  have h4:m.chkS s=33:=by
   have e1:scanE (fun pre x=>entE m s pre.length x) [] s.es=0:=h2
   have e3:(scanE (fun pre x=>bif leads m s pre.length x then 0 else 33) [] s.es != 0)=true:=by rw [bne_iff_ne]; exact hn
   unfold Ms.chkS
   rw [h1,e1,e3]; rfl
  exact absurd (h4.symm.trans h) (by decide)
 have h4:=scan_each h3 hx
 have hk:k < s.es.length:=(List.getElem?_eq_some_iff.1 hx).1
 rw [sc2_at (by omega)] at h4
 cases hq:leads m s k x
 ·rw [hq] at h4; cases h4
 ·rfl
set_option maxHeartbeats 1000000 in
theorem c37 (m:Ms) (s:Sts) (hm:m.ns.length≤1048576) (hl2:m.ls.length≤1048576) (hn:s.es.length≤1048576):CallDet Tryz.prog 37 [.d m.d,.d s.d] [.int .i64 (m.chkS s)]:=by
 have hl:=ens_len s.es
 have hsl:=strs_len m.ns
 have fin:∀ v,m.chkS s=v→resV [.int .i64 v]=resV [.int .i64 (m.chkS s)]:=fun v h=>by rw [h]
 have eH:firstOf [Ms.chk m,Ms.nodeE m (Sts.co s),within3 (Sts.nu s) 1 1000000,bif ((ens s.es).length:Int) != ((strs m.ns).length:Int) then 2 else 0]=stH m s:=by rw [hl,hsl]; rfl
 refine call_of_vc (x:=ir37) (by kernel_rfl) rfl ?_
 refine ca (c27 m (by omega) (by omega)) ?_
 refine ca (c87 m _) ?_
 refine ca (c104 _ _ _) ?_
 refine sd ?_
 refine ca (c89 _ _) ?_
 refine sd ?_
 refine sd ?_
 refine ca (c86 [Ms.chk m,Ms.nodeE m (Sts.co s),within3 (Sts.nu s) (1:Int) (1000000:Int),bif (↑(List.length (ens (Sts.es s))):Int) != (↑(List.length (strs (Ms.ns m))):Int) then (2:Int) else (0:Int)] (by simp)) ?_
 refine sd ?_
 refine b_ne (fun t1=>?_) (fun t1=>?_)
 rotate_left
 rotate_left
 ·rw [eH] at t1; rw [eH]
  exact fin _ (chkS_1 t1)
 rw [eH] at t1
 have hok:=stH_ok t1
 have hf:=hok.1
 refine loop_u (fun k:Nat=>[(34,.d (.int .i64 k))]) (fun k=>[]) (fun k=>scanE (sc1 m s) [] s.es=scanE (sc1 m s) (s.es.take k) (s.es.drop k)) (fun k=>s.es.length - k) 0 rfl rfl ?_
 intro k hi
 by_cases hkk:k < s.es.length
 ·refine Exists.elim (get_lt s.es hkk) fun x hx=>?_
  refine sd ?_
  refine b_lt (fun t2=>?_) (fun t2=>?_)
  refine ca (c105 m s k x hf hx) ?_
  refine sd ?_
  refine b_ne (fun t3=>?_) (fun t3=>?_)
  rotate_left
  refine ar_add ?_ ?_
  refine an ?_ ?_
  (show (-9223372036854775808:Int)≤(↑k:Int)+(1:Int); omega)
  (show (↑k:Int)+(1:Int)≤(9223372036854775807:Int); omega)
  rotate_left
  (exfalso; omega)
  ·exact fin _ (chkS_2 t1 ((scan_bad hi hx (by rw [sc1_at (by omega)]; simpa using t3)).trans (sc1_at (by omega) x)) (by simpa using t3))
  ·exact ⟨k+1,⟨scan_ok hi hx (by rw [sc1_at (by omega)]; simpa using t3),by show s.es.length - (k+1) < s.es.length - k; omega⟩,rfl⟩
 have h1:scanE (sc1 m s) [] s.es=0:=scan_end hi (by omega)
 refine sd ?_
 refine b_lt (fun t2=>?_) (fun t2=>?_)
 (exfalso; omega)
 rotate_left
 clear hi
 have hall:∀ y∈s.es,0≤y.di∧y.di≤3200:=fun y hy=>by
  obtain ⟨q,hq,e⟩:=List.mem_iff_getElem.1 hy
  exact (ent_ok (ent_all h1 (List.getElem?_eq_some_iff.2 ⟨hq,e⟩))).2.1
 refine loop_u (fun k:Nat=>[(48,.d (.int .i64 k))]) (fun k=>[]) (fun k=>scanE (sc2 m s) [] s.es=scanE (sc2 m s) (s.es.take k) (s.es.drop k)) (fun k=>s.es.length - k) 0 rfl rfl ?_
 intro k hi
 by_cases hkk:k < s.es.length
 ·refine Exists.elim (get_lt s.es hkk) fun x hx=>?_
  have hxr:=(ent_ok (ent_all h1 hx)).2.2
  refine sd ?_
  refine b_lt (fun t3=>?_) (fun t3=>?_)
  refine ca (c106 m s k x hf hx (by omega) hall) ?_
  refine b_intro (fun t4=>?_) (fun t4=>?_)
  rotate_left
  refine ar_add ?_ ?_
  refine an ?_ ?_
  (show (-9223372036854775808:Int)≤(↑k:Int)+(1:Int); omega)
  (show (↑k:Int)+(1:Int)≤(9223372036854775807:Int); omega)
  rotate_left
  (exfalso; omega)
  ·have e:leads m s k x=false:=by simpa using t4
   exact fin _ (chkS_3 t1 h1 ((scan_bad hi hx (by rw [sc2_at (by omega),e]; rfl)).trans (by rw [sc2_at (by omega),e]; rfl)))
  ·have e:leads m s k x=true:=by simpa using t4
   exact ⟨k+1,⟨scan_ok hi hx (by rw [sc2_at (by omega),e]; rfl),by show s.es.length - (k+1) < s.es.length - k; omega⟩,rfl⟩
 have h2:scanE (sc2 m s) [] s.es=0:=scan_end hi (by omega)
 refine sd ?_
 refine b_lt (fun t3=>?_) (fun t3=>?_)
 (exfalso; omega)
 rotate_left
 exact fin _ (chkS_4 t1 h1 h2)
theorem co_1 {x:En} {nu n:Int} (h:¬ x.nu=nu):(bif !(En.same x ⟨nu,0,n⟩) then 1 else 0:Int)=1:=by unfold En.same; rw [show (x.nu==nu)=false by simpa using h]; rfl
theorem co_2 {x:En} {nu n:Int} (h:¬ x.di=0):(bif !(En.same x ⟨nu,0,n⟩) then 1 else 0:Int)=1:=by unfold En.same; rw [show (x.di==0)=false by simpa using h]; simp
theorem co_3 {x:En} {nu n:Int} (h:¬ x.ne=n):(bif !(En.same x ⟨nu,0,n⟩) then 1 else 0:Int)=1:=by unfold En.same; rw [show (x.ne==n)=false by simpa using h]; simp
theorem co_4 {x:En} {nu n:Int} (h1:x.nu=nu) (h2:x.di=0) (h3:x.ne=n):(bif !(En.same x ⟨nu,0,n⟩) then 1 else 0:Int)=0:=by unfold En.same; rw [h1,h2,h3]; simp
theorem ent_b7 {x:En} {c:Int} (h:0≤x.ne) (hc:c=0):(bif (x.ne != -1)&&(c==0) then 7 else 0:Int)=7:=by
 rw [show (x.ne != -1)=true by simp; omega,hc]; rfl
theorem ent_b8 {x:En} {c:Int} (hc:¬ c=0):(bif (x.ne != -1)&&(c==0) then 7 else 0:Int)=0:=by
 rw [show (c==0)=false by simpa using hc]; simp
theorem ent_a2 {x:En} (h1:x.nu=0) (h2:¬ x.di=0):(bif (x.nu==0)&&!(En.same x ⟨0,0,-1⟩) then 1 else 0:Int)=1:=(ent_a1 h1).trans (co_2 h2)
theorem ent_a3 {x:En} (h1:x.nu=0) (h2:¬ x.ne=-1):(bif (x.nu==0)&&!(En.same x ⟨0,0,-1⟩) then 1 else 0:Int)=1:=(ent_a1 h1).trans (co_3 h2)
theorem ent_a4 {x:En} (h1:x.nu=0) (h2:x.di=0) (h3:x.ne=-1):(bif (x.nu==0)&&!(En.same x ⟨0,0,-1⟩) then 1 else 0:Int)=0:=(ent_a1 h1).trans (co_4 h1 h2 h3)
theorem entH_r1 {m:Ms} {s:Sts} {x:En} (h:x.ne=-1):entH m s x=firstOf [within3 x.nu 0 s.nu,within3 x.di 0 3200,0]:=by
 unfold entH; rw [h]
 rw [show (decide ((-1:Int) < -1)||decide ((m.ns.length:Int)≤-1))=false by simp; omega]; rfl
theorem entH_r2 {m:Ms} {s:Sts} {x:En} (h:¬ x.ne=-1):entH m s x=firstOf [within3 x.nu 0 s.nu,within3 x.di 0 3200,bif !(m.has x.ne) then 10 else 0]:=by
 unfold entH
 rw [has_out]; unfold outN
 rw [show decide (x.ne < -1)=decide (x.ne < 0) by rw [decide_eq_decide]; omega]
theorem has_ge {m:Ms} {x:En} {a b:Int} (h:firstOf [a,b,bif !(m.has x.ne) then 10 else 0]=0):0≤x.ne:=by
 have h3:=(firstOf3 h).2.2
 rw [has_out] at h3
 unfold outN at h3
 by_cases hq:x.ne < 0
 ·rw [decide_eq_true hq] at h3; cases h3
 ·omega
theorem c34 (m:Ms) (s:Sts) (hm:m.ns.length≤1048576) (hl2:m.ls.length≤1048576) (hn:s.es.length≤1048576):CallDet Tryz.prog 34 [.d m.d,.d s.d] [.int .i64 (m.chkS s)]:=by
 have hl:=ens_len s.es
 have hsl:=strs_len m.ns
 have fin:∀ v,m.chkS s=v→resV [.int .i64 v]=resV [.int .i64 (m.chkS s)]:=fun v h=>by rw [h]
 have eH:firstOf [Ms.chk m,Ms.nodeE m (Sts.co s),within3 (Sts.nu s) 1 1000000,bif ((ens s.es).length:Int) != ((strs m.ns).length:Int) then 2 else 0]=stH m s:=by rw [hl,hsl]; rfl
 refine call_of_vc (x:=ir34) (by kernel_rfl) rfl ?_
 refine ca (c22 m (by omega) (by omega)) ?_
 refine ca (c23 m _) ?_
 refine ca (c101 _ _ _) ?_
 refine sd ?_
 refine ca (c49 _ _) ?_
 refine sd ?_
 refine sd ?_
 refine ca (c100 [Ms.chk m,Ms.nodeE m (Sts.co s),within3 (Sts.nu s) (1:Int) (1000000:Int),bif (↑(List.length (ens (Sts.es s))):Int) != (↑(List.length (strs (Ms.ns m))):Int) then (2:Int) else (0:Int)] (by simp)) ?_
 refine sd ?_
 refine b_ne (fun t1=>?_) (fun t1=>?_)
 rotate_left
 rotate_left
 ·rw [eH] at t1; rw [eH]
  exact fin _ (chkS_1 t1)
 rw [eH] at t1
 have hok:=stH_ok t1
 have hf:=hok.1
 have hlt:=hf.l128
 refine loop_u (fun k:Nat=>[(6,.d (.int .i64 k))]) (fun k=>[]) (fun k=>scanE (sc1 m s) [] s.es=scanE (sc1 m s) (s.es.take k) (s.es.drop k)) (fun k=>s.es.length - k) 0 rfl rfl ?_
 intro k hi
 by_cases hkk:k < s.es.length
 ·refine Exists.elim (get_lt s.es hkk) fun x hx=>?_
  have hx2:=ens_at hx
  have bad:∀ v,entE m s k x=v→¬ v=0→m.chkS s=v:=fun v e h=>chkS_2 t1 ((scan_bad hi hx (by rw [sc1_at (by omega),e]; simpa using h)).trans ((sc1_at (by omega) x).trans e)) (by simpa using h)
  have okk:entE m s k x=0→scanE (sc1 m s) [] s.es=scanE (sc1 m s) (s.es.take (k+1)) (s.es.drop (k+1)):=fun e=>scan_ok hi hx (by rw [sc1_at (by omega),e]; rfl)
  by_cases hne:x.ne=-1
  ·have e:=entH_r1 (m:=m) (s:=s) hne
   refine sd ?_
   refine b_lt (fun t2=>?_) (fun t2=>?_)
   refine ix_at hx2 ?_ ?_
   (show (0:Int)≤(↑k:Int); omega)
   refine ca (c101 _ _ _) ?_
   refine ca (c101 _ _ _) ?_
   refine sd ?_
   refine b_ne (fun t3=>?_) (fun t3=>?_)
   (exfalso; omega)
   refine sd ?_
   refine ca (c49 _ _) ?_
   refine sd ?_
   refine sd ?_
   refine ca (c100 [within3 (En.nu x) (0:Int) (Sts.nu s),within3 (En.di x) (0:Int) (3200:Int),(0:Int)] (by simp)) ?_
   refine sd ?_
   refine b_ne (fun t4=>?_) (fun t4=>?_)
   rotate_left
   refine sd ?_
   refine b_eq (fun t5=>?_) (fun t5=>?_)
   refine sd ?_
   refine b_ne (fun t6=>?_) (fun t6=>?_)
   refine sd ?_
   refine sd ?_
   rotate_left
   refine sd ?_
   refine b_ne (fun t7=>?_) (fun t7=>?_)
   refine sd ?_
   rotate_left
   refine sd ?_
   refine b_ne (fun t8=>?_) (fun t8=>?_)
   rotate_left
   (exfalso; omega)
   refine sd ?_
   refine b_eq (fun t9=>?_) (fun t9=>?_)
   refine sd ?_
   refine b_ne (fun t10=>?_) (fun t10=>?_)
   refine sd ?_
   rotate_left
   refine sd ?_
   refine b_ne (fun t11=>?_) (fun t11=>?_)
   (exfalso; omega)
   refine sd ?_
   refine b_le (fun t12=>?_) (fun t12=>?_)
   (exfalso; omega)
   refine sd ?_
   refine ar_add ?_ ?_
   refine an ?_ ?_
   (show (-9223372036854775808:Int)≤(↑k:Int)+(1:Int); omega)
   (show (↑k:Int)+(1:Int)≤(9223372036854775807:Int); omega)
   rotate_left
   refine sd ?_
   refine sd ?_
   refine b_le (fun t13=>?_) (fun t13=>?_)
   (exfalso; omega)
   refine sd ?_
   refine ar_add ?_ ?_
   refine an ?_ ?_
   (show (-9223372036854775808:Int)≤(↑k:Int)+(1:Int); omega)
   (show (↑k:Int)+(1:Int)≤(9223372036854775807:Int); omega)
   rotate_left
   (exfalso; omega)
   all_goals first
   | exact fin _ (bad _ (entE_bad e ‹_›) ‹_›)
   | exact fin _ (bad _ ((entE_co e ‹_› ‹_›).trans (co_1 ‹¬ x.nu=s.nu›)) (by decide))
   | exact fin _ (bad _ ((entE_co e ‹_› ‹_›).trans (co_2 ‹¬ x.di=0›)) (by decide))
   | exact fin _ (bad _ ((entE_co e ‹_› ‹_›).trans (co_3 ‹¬ x.ne=(k:Int)›)) (by decide))
   | exact ⟨k+1,⟨okk ((entE_co e ‹_› ‹_›).trans (co_4 ‹_› ‹_› ‹_›)),by show s.es.length - (k+1) < s.es.length - k; omega⟩,rfl⟩
   | exact fin _ (bad _ (entE_no e ‹_› ‹_› (ent_a2 ‹_› ‹_›) rfl) (by decide))
   | exact fin _ (bad _ (entE_no e ‹_› ‹_› (ent_a3 ‹_› ‹_›) rfl) (by decide))
   | exact ⟨k+1,⟨okk (entE_no e ‹_› ‹_› (ent_a4 ‹_› ‹_› hne) (ent_b0 hne)),by show s.es.length - (k+1) < s.es.length - k; omega⟩,rfl⟩
   | exact ⟨k+1,⟨okk (entE_no e ‹_› ‹_› (ent_a0 ‹_›) (ent_b0 hne)),by show s.es.length - (k+1) < s.es.length - k; omega⟩,rfl⟩
  ·have e:=entH_r2 (m:=m) (s:=s) hne
   refine sd ?_
   refine b_lt (fun t2=>?_) (fun t2=>?_)
   refine ix_at hx2 ?_ ?_
   (show (0:Int)≤(↑k:Int); omega)
   refine ca (c101 _ _ _) ?_
   refine ca (c101 _ _ _) ?_
   refine sd ?_
   refine b_ne (fun t3=>?_) (fun t3=>?_)
   refine ca (c95 m _) ?_
   refine ca (c49 _ _) ?_
   refine sd ?_
   refine sd ?_
   refine ca (c100 [within3 (En.nu x) (0:Int) (Sts.nu s),within3 (En.di x) (0:Int) (3200:Int),bif !Ms.has m (En.ne x) then (10:Int) else (0:Int)] (by simp)) ?_
   refine sd ?_
   refine b_ne (fun t4=>?_) (fun t4=>?_)
   rotate_left
   refine sd ?_
   refine b_eq (fun t5=>?_) (fun t5=>?_)
   refine sd ?_
   refine b_ne (fun t6=>?_) (fun t6=>?_)
   refine sd ?_
   refine sd ?_
   rotate_left
   refine sd ?_
   refine b_ne (fun t7=>?_) (fun t7=>?_)
   refine sd ?_
   rotate_left
   refine sd ?_
   refine b_ne (fun t8=>?_) (fun t8=>?_)
   rotate_left
   refine ar_add ?_ ?_
   refine an ?_ ?_
   (show (-9223372036854775808:Int)≤(↑k:Int)+(1:Int); omega)
   (show (↑k:Int)+(1:Int)≤(9223372036854775807:Int); omega)
   rotate_left
   refine sd ?_
   refine b_eq (fun t9=>?_) (fun t9=>?_)
   refine sd ?_
   refine b_ne (fun t10=>?_) (fun t10=>?_)
   refine sd ?_
   rotate_left
   refine sd ?_
   refine b_ne (fun t11=>?_) (fun t11=>?_)
   rotate_left
   (exfalso; omega)
   refine sd ?_
   refine sd ?_
   refine b_le (fun t12=>?_) (fun t12=>?_)
   refine ca (c67 m _ _ (by omega) hf.asc) ?_
   refine sd ?_
   refine b_eq (fun t13=>?_) (fun t13=>?_)
   rotate_left
   refine ar_add ?_ ?_
   refine an ?_ ?_
   (show (-9223372036854775808:Int)≤(↑k:Int)+(1:Int); omega)
   (show (↑k:Int)+(1:Int)≤(9223372036854775807:Int); omega)
   rotate_left
   refine sd ?_
   refine ar_add ?_ ?_
   refine an ?_ ?_
   (show (-9223372036854775808:Int)≤(↑k:Int)+(1:Int); omega)
   (show (↑k:Int)+(1:Int)≤(9223372036854775807:Int); omega)
   rotate_left
   (exfalso; omega)
   (exfalso; omega)
   all_goals first
   | exact fin _ (bad _ (entE_bad e ‹_›) ‹_›)
   | exact fin _ (bad _ ((entE_co e ‹_› ‹_›).trans (co_1 ‹¬ x.nu=s.nu›)) (by decide))
   | exact fin _ (bad _ ((entE_co e ‹_› ‹_›).trans (co_2 ‹¬ x.di=0›)) (by decide))
   | exact fin _ (bad _ ((entE_co e ‹_› ‹_›).trans (co_3 ‹¬ x.ne=(k:Int)›)) (by decide))
   | exact ⟨k+1,⟨okk ((entE_co e ‹_› ‹_›).trans (co_4 ‹_› ‹_› ‹_›)),by show s.es.length - (k+1) < s.es.length - k; omega⟩,rfl⟩
   | exact fin _ (bad _ (entE_no e ‹_› ‹_› (ent_a2 ‹_› ‹_›) rfl) (by decide))
   | exact fin _ (bad _ (entE_no e ‹_› ‹_› (ent_a3 ‹_› ‹_›) rfl) (by decide))
   | exact fin _ (bad _ (entE_no e ‹_› ‹_› (ent_a0 ‹_›) (ent_b7 ‹_› ‹_›)) (by decide))
   | exact ⟨k+1,⟨okk (entE_no e ‹_› ‹_› (ent_a0 ‹_›) (ent_b8 ‹_›)),by show s.es.length - (k+1) < s.es.length - k; omega⟩,rfl⟩
   | exact absurd (has_ge ‹_›) ‹_›
 have h1:scanE (sc1 m s) [] s.es=0:=scan_end hi (by omega)
 refine sd ?_
 refine b_lt (fun t2=>?_) (fun t2=>?_)
 (exfalso; omega)
 rotate_left
 clear hi
 have hall:∀ y∈s.es,0≤y.di∧y.di≤3200:=fun y hy=>by
  obtain ⟨q,hq,e⟩:=List.mem_iff_getElem.1 hy
  exact (ent_ok (ent_all h1 (List.getElem?_eq_some_iff.2 ⟨hq,e⟩))).2.1
 refine loop_u (fun k:Nat=>[(9,.d (.int .i64 k))]) (fun k=>[]) (fun k=>scanE (sc2 m s) [] s.es=scanE (sc2 m s) (s.es.take k) (s.es.drop k)) (fun k=>s.es.length - k) 0 rfl rfl ?_
 intro k hi
 by_cases hkk:k < s.es.length
 ·refine Exists.elim (get_lt s.es hkk) fun x hx=>?_
  have hxr:=(ent_ok (ent_all h1 hx)).2.2
  refine sd ?_
  refine b_lt (fun t3=>?_) (fun t3=>?_)
  refine ca (c102 m s k x hf hx (by omega) hall) ?_
  refine b_intro (fun t4=>?_) (fun t4=>?_)
  rotate_left
  refine ar_add ?_ ?_
  refine an ?_ ?_
  (show (-9223372036854775808:Int)≤(↑k:Int)+(1:Int); omega)
  (show (↑k:Int)+(1:Int)≤(9223372036854775807:Int); omega)
  rotate_left
  (exfalso; omega)
  ·have e:leads m s k x=false:=by simpa using t4
   exact fin _ (chkS_3 t1 h1 ((scan_bad hi hx (by rw [sc2_at (by omega),e]; rfl)).trans (by rw [sc2_at (by omega),e]; rfl)))
  ·have e:leads m s k x=true:=by simpa using t4
   exact ⟨k+1,⟨scan_ok hi hx (by rw [sc2_at (by omega),e]; rfl),by show s.es.length - (k+1) < s.es.length - k; omega⟩,rfl⟩
 have h2:scanE (sc2 m s) [] s.es=0:=scan_end hi (by omega)
 refine sd ?_
 refine b_lt (fun t3=>?_) (fun t3=>?_)
 (exfalso; omega)
 rotate_left
 exact fin _ (chkS_4 t1 h1 h2)
end Vc
