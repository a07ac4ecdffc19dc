import Derived.Test.YtkopkfcfgiijmaaGreatDoorG18
set_option linter.unusedSectionVars false
set_option linter.unusedVariables false
set_option linter.unusedSimpArgs false
set_option maxRecDepth 10000
namespace Vc.L
open Go Go.Proofs
def ir20:AFun:=⟨110,1,[.tmp 2,.tmp 3],
 (.seq
 (.reg [] [⟨some 2,.mov (.cst (.nils 1)),none⟩,
 ⟨some 3,.mov (.cst (.d (.int .i64 0))),none⟩])
 (.seq
 (.seq
 (.reg [] [⟨some 10,.mov (.tmp 0),none⟩,
 ⟨some 11,.len (.tmp 10),none⟩,
 ⟨some 12,.cmp .eql (.tmp 11) (.cst (.d (.int .i64 0))),none⟩])
 (.cond (.tmp 12)
 (.seq
 (.reg [] [⟨some 2,.mov (.cst (.nils 1)),none⟩,
 ⟨some 3,.mov (.cst (.d (.int .i64 12))),none⟩])
 .ret)
 .skip))
 (.seq
 (.seq
 (.reg [] [⟨some 4,.mov (.cst (.d (.int .i64 0))),none⟩])
 (.post [0] []
 (.block 0
 (.keep [0,4] []
 (.loop
 (.post [0,4] []
 (.seq
 (.seq
 (.reg [] [⟨some 13,.mov (.tmp 4),none⟩,
 ⟨some 14,.mov (.tmp 0),none⟩,
 ⟨some 15,.len (.tmp 14),none⟩,
 ⟨some 16,.cmp .lss (.tmp 13) (.tmp 15),none⟩])
 (.cond (.tmp 16)
 .skip
 (.exit 0)))
 (.seq
 (.block 1
 (.seq
 (.reg [] [⟨some 5,.mov (.cst (.d (.int .i64 0))),none⟩])
 (.post [0,4] []
 (.block 2
 (.keep [0,4,5] []
 (.loop
 (.post [0,4,5] []
 (.seq
 (.seq
 (.reg [] [⟨some 19,.mov (.tmp 5),none⟩,
 ⟨some 20,.mov (.tmp 4),none⟩,
 ⟨some 21,.cmp .lss (.tmp 19) (.tmp 20),none⟩])
 (.cond (.tmp 21)
 .skip
 (.exit 2)))
 (.seq
 (.block 3
 (.seq
 (.regd [] [⟨some 24,.mov (.tmp 0),none⟩,
 ⟨some 25,.mov (.tmp 4),none⟩,
 ⟨some 26,.ixa 4 (.tmp 24) (.tmp 25),none⟩,
 ⟨some 27,.fad 0 (.tmp 26),none⟩,
 ⟨some 28,.ld false 1 (.tmp 27),none⟩,
 ⟨some 29,.mov (.tmp 0),none⟩,
 ⟨some 30,.mov (.tmp 5),none⟩,
 ⟨some 31,.ixa 4 (.tmp 29) (.tmp 30),none⟩,
 ⟨some 32,.fad 0 (.tmp 31),none⟩,
 ⟨some 33,.ld false 1 (.tmp 32),none⟩,
 ⟨some 34,.cmp .neq (.tmp 28) (.tmp 33),none⟩,
 ⟨some 35,.mov (.tmp 34),none⟩,
 ⟨some 36,.mov (.tmp 0),some (35,false)⟩,
 ⟨some 37,.mov (.tmp 4),some (35,false)⟩,
 ⟨some 38,.ixa 4 (.tmp 36) (.tmp 37),some (35,false)⟩,
 ⟨some 39,.fad 2 (.tmp 38),some (35,false)⟩,
 ⟨some 40,.ld false 1 (.tmp 39),some (35,false)⟩,
 ⟨some 41,.mov (.tmp 0),some (35,false)⟩,
 ⟨some 42,.mov (.tmp 5),some (35,false)⟩,
 ⟨some 43,.ixa 4 (.tmp 41) (.tmp 42),some (35,false)⟩,
 ⟨some 44,.fad 2 (.tmp 43),some (35,false)⟩,
 ⟨some 45,.ld false 1 (.tmp 44),some (35,false)⟩,
 ⟨some 46,.cmp .neq (.tmp 40) (.tmp 45),some (35,false)⟩,
 ⟨some 47,.pick (.tmp 35) (.cst (.d (.bool true))) (.tmp 46),none⟩,
 ⟨some 48,.mov (.tmp 47),none⟩,
 ⟨some 49,.mov (.tmp 0),some (48,false)⟩,
 ⟨some 50,.mov (.tmp 4),some (48,false)⟩,
 ⟨some 51,.ixa 4 (.tmp 49) (.tmp 50),some (48,false)⟩,
 ⟨some 52,.fad 1 (.tmp 51),some (48,false)⟩,
 ⟨some 53,.ld false 1 (.tmp 52),some (48,false)⟩,
 ⟨some 54,.mov (.tmp 0),some (48,false)⟩,
 ⟨some 55,.mov (.tmp 5),some (48,false)⟩,
 ⟨some 56,.ixa 4 (.tmp 54) (.tmp 55),some (48,false)⟩,
 ⟨some 57,.fad 1 (.tmp 56),some (48,false)⟩,
 ⟨some 58,.ld false 1 (.tmp 57),some (48,false)⟩,
 ⟨some 59,.cmp .eql (.tmp 53) (.tmp 58),some (48,false)⟩,
 ⟨some 60,.mov (.tmp 59),some (48,false)⟩,
 ⟨some 61,.mov (.tmp 0),some (60,true)⟩,
 ⟨some 62,.mov (.tmp 4),some (60,true)⟩,
 ⟨some 63,.ixa 4 (.tmp 61) (.tmp 62),some (60,true)⟩,
 ⟨some 64,.fad 3 (.tmp 63),some (60,true)⟩,
 ⟨some 65,.ld false 1 (.tmp 64),some (60,true)⟩,
 ⟨some 66,.mov (.tmp 0),some (60,true)⟩,
 ⟨some 67,.mov (.tmp 5),some (60,true)⟩,
 ⟨some 68,.ixa 4 (.tmp 66) (.tmp 67),some (60,true)⟩,
 ⟨some 69,.fad 3 (.tmp 68),some (60,true)⟩,
 ⟨some 70,.ld false 1 (.tmp 69),some (60,true)⟩,
 ⟨some 71,.call 30 [(.tmp 65),(.tmp 70)],some (60,true)⟩,
 ⟨some 72,.not (.tmp 71),some (60,true)⟩,
 ⟨some 73,.pick (.tmp 60) (.tmp 72) (.cst (.d (.bool false))),some (48,false)⟩,
 ⟨some 74,.pick (.tmp 48) (.cst (.d (.bool true))) (.tmp 73),none⟩] [(0,1),(0,5),(1,5),(2,5),(3,5),(4,5),(0,6),(1,6),(2,6),(3,6),(4,6),(5,6),(0,7),(1,7),(2,7),(3,7),(4,7),(0,8),(1,8),(2,8),(3,8),(4,8),(0,9),(1,9),(2,9),(3,9),(4,9),(12,13),(12,17),(13,17),(14,17),(15,17),(16,17),(12,18),(13,18),(14,18),(15,18),(16,18),(17,18),(12,19),(13,19),(14,19),(15,19),(16,19),(12,20),(13,20),(14,20),(15,20),(16,20),(12,21),(13,21),(14,21),(15,21),(16,21),(25,26),(25,30),(26,30),(27,30),(28,30),(29,30),(25,31),(26,31),(27,31),(28,31),(29,31),(30,31),(25,32),(26,32),(27,32),(28,32),(29,32),(25,33),(26,33),(27,33),(28,33),(29,33),(25,34),(26,34),(27,34),(28,34),(29,34),(37,38),(37,42),(38,42),(39,42),(40,42),(41,42),(37,43),(38,43),(39,43),(40,43),(41,43),(42,43),(37,44),(38,44),(39,44),(40,44),(41,44),(37,45),(38,45),(39,45),(40,45),(41,45),(37,46),(38,46),(39,46),(40,46),(41,46)])
 (.cond (.tmp 74)
 (.seq
 (.reg [] [⟨some 2,.mov (.cst (.nils 1)),none⟩,
 ⟨some 3,.mov (.cst (.d (.int .i64 24))),none⟩])
 .ret)
 .skip)))
 (.reg [] [⟨some 22,.mov (.tmp 5),none⟩,
 ⟨some 23,.arith .add .i64 (.tmp 22) (.cst (.d (.int .i64 1))),none⟩,
 ⟨some 5,.mov (.tmp 23),none⟩]))))))))))
 (.reg [] [⟨some 17,.mov (.tmp 4),none⟩,
 ⟨some 18,.arith .add .i64 (.tmp 17) (.cst (.d (.int .i64 1))),none⟩,
 ⟨some 4,.mov (.tmp 18),none⟩])))))))))
 (.seq
 (.reg [] [⟨some 6,.mov (.cst (.nils 1)),none⟩])
 (.seq
 (.seq
 (.reg [] [⟨some 7,.mov (.cst (.d (.int .i64 0))),none⟩])
 (.post [6] [0]
 (.block 4
 (.asrow 0 5 1 6
 (.keep [0,6,7] []
 (.loop
 (.post [0,6,7] [0]
 (.seq
 (.seq
 (.reg [] [⟨some 75,.mov (.tmp 7),none⟩,
 ⟨some 76,.mov (.tmp 0),none⟩,
 ⟨some 77,.ixa 4 (.tmp 76) (.cst (.d (.int .i64 0))),none⟩,
 ⟨some 78,.fad 2 (.tmp 77),none⟩,
 ⟨some 79,.ld false 1 (.tmp 78),none⟩,
 ⟨some 80,.cmp .lss (.tmp 75) (.tmp 79),none⟩])
 (.cond (.tmp 80)
 .skip
 (.exit 4)))
 (.seq
 (.block 5
 (.seq
 (.reg [] [⟨some 8,.mov (.cst (.d (.bool false))),none⟩])
 (.seq
 (.seq
 (.reg [] [⟨some 9,.mov (.cst (.d (.int .i64 0))),none⟩])
 (.post [0,6,7,8] [0]
 (.block 6
 (.asrow 0 5 1 6
 (.keep [0,6,7,8,9] []
 (.loop
 (.post [0,6,7,8,9] [0]
 (.seq
 (.seq
 (.reg [] [⟨some 83,.mov (.tmp 9),none⟩,
 ⟨some 84,.mov (.tmp 0),none⟩,
 ⟨some 85,.len (.tmp 84),none⟩,
 ⟨some 86,.cmp .lss (.tmp 83) (.tmp 85),none⟩])
 (.cond (.tmp 86)
 .skip
 (.exit 6)))
 (.seq
 (.block 7
 (.seq
 (.reg [] [⟨some 89,.mov (.tmp 0),none⟩,
 ⟨some 90,.mov (.tmp 9),none⟩,
 ⟨some 91,.ixa 4 (.tmp 89) (.tmp 90),none⟩,
 ⟨some 92,.fad 1 (.tmp 91),none⟩,
 ⟨some 93,.ld false 1 (.tmp 92),none⟩,
 ⟨some 94,.mov (.tmp 7),none⟩,
 ⟨some 95,.cmp .eql (.tmp 93) (.tmp 94),none⟩,
 ⟨some 96,.mov (.tmp 95),none⟩,
 ⟨some 97,.mov (.tmp 8),some (96,true)⟩,
 ⟨some 98,.not (.tmp 97),some (96,true)⟩,
 ⟨some 99,.pick (.tmp 96) (.tmp 98) (.cst (.d (.bool false))),none⟩])
 (.cond (.tmp 99)
 (.reg [0] [⟨some 100,.mov (.tmp 6),none⟩,
 ⟨some 101,.mov (.tmp 0),none⟩,
 ⟨some 102,.mov (.tmp 9),none⟩,
 ⟨some 103,.ixa 4 (.tmp 101) (.tmp 102),none⟩,
 ⟨some 104,.fad 3 (.tmp 103),none⟩,
 ⟨some 105,.ld false 1 (.tmp 104),none⟩,
 ⟨some 106,.app 0 5 1 1 (.tmp 100) (.tmp 105),none⟩,
 ⟨some 6,.mov (.tmp 106),none⟩,
 ⟨some 8,.mov (.cst (.d (.bool true))),none⟩])
 .skip)))
 (.reg [] [⟨some 87,.mov (.tmp 9),none⟩,
 ⟨some 88,.arith .add .i64 (.tmp 87) (.cst (.d (.int .i64 1))),none⟩,
 ⟨some 9,.mov (.tmp 88),none⟩]))))))))))
 (.seq
 (.reg [] [⟨some 107,.mov (.tmp 8),none⟩,
 ⟨some 108,.not (.tmp 107),none⟩])
 (.cond (.tmp 108)
 (.seq
 (.reg [] [⟨some 2,.mov (.cst (.nils 1)),none⟩,
 ⟨some 3,.mov (.cst (.d (.int .i64 16))),none⟩])
 .ret)
 .skip)))))
 (.reg [] [⟨some 81,.mov (.tmp 7),none⟩,
 ⟨some 82,.arith .add .i64 (.tmp 81) (.cst (.d (.int .i64 1))),none⟩,
 ⟨some 7,.mov (.tmp 82),none⟩]))))))))))
 (.seq
 (.reg [] [⟨some 109,.mov (.tmp 6),none⟩,
 ⟨some 2,.mov (.tmp 109),none⟩,
 ⟨some 3,.mov (.cst (.d (.int .i64 0))),none⟩])
 .ret))))))⟩
theorem check_fr {f:Fr} (h:f.check=0):(0≤f.m∧f.m≤255)∧(1≤f.n∧f.n≤64)∧(0≤f.p∧f.p≤f.n - 1)∧f.b.length≤12:=check_zero h
end Vc.L
set_option maxRecDepth 10000
namespace Vc.L
open Go Go.Proofs
def ir14:AFun:=⟨95,6,[.tmp 2,.tmp 3],
 (.seq
 (.reg [] [⟨some 2,.mov (.cst (.nils 1)),none⟩,
 ⟨some 3,.mov (.cst (.d (.int .i64 0))),none⟩])
 (.scope
 (.seq
 (.seq
 (.reg [0] [⟨some 15,.mov (.tmp 0),none⟩,
 ⟨some 16,.call 83 [(.tmp 15)],none⟩,
 ⟨some 17,.mov (.tmp 0),none⟩,
 ⟨some 18,.len (.tmp 17),none⟩,
 ⟨some 19,.cmp .eql (.tmp 18) (.cst (.d (.int .i64 0))),none⟩,
 ⟨some 20,.call 69 [(.tmp 19),(.cst (.d (.int .i64 12)))],none⟩,
 ⟨some 21,.bsl 0 33 1 2 [(.int .i64 0),(.int .i64 0)] [(0,(.tmp 16)),(1,(.tmp 20))],none⟩,
 ⟨some 22,.call 46 [(.tmp 21)],none⟩,
 ⟨some 4,.mov (.tmp 22),none⟩])
 (.seq
 (.reg [] [⟨some 23,.mov (.tmp 4),none⟩,
 ⟨some 24,.cmp .neq (.tmp 23) (.cst (.d (.int .i64 0))),none⟩])
 (.cond (.tmp 24)
 (.seq
 (.reg [] [⟨some 25,.mov (.tmp 4),none⟩,
 ⟨some 2,.mov (.cst (.nils 1)),none⟩,
 ⟨some 3,.mov (.tmp 25),none⟩])
 .ret)
 .skip)))
 (.seq
 (.reg [1] [⟨some 26,.mkm 1,none⟩,
 ⟨some 5,.mov (.tmp 26),none⟩])
 (.seq
 (.seq
 (.reg [] [⟨some 27,.mov (.tmp 0),none⟩,
 ⟨some 28,.len (.tmp 27),none⟩,
 ⟨some 29,.mov (.cst (.d (.int .i64 0))),none⟩])
 (.post [0,5] [0,1,2,3]
 (.block 0
 (.keep [0,5,27,28,29] [0,1]
 (.loop
 (.post [0,5,27,28,29] [2,3]
 (.seq
 (.reg [] [⟨some 30,.cmp .lss (.tmp 29) (.tmp 28),none⟩])
 (.seq
 (.cond (.tmp 30)
 .skip
 (.exit 0))
 (.seq
 (.block 1
 (.seq
 (.reg [2] [⟨some 31,.ixa 4 (.tmp 27) (.tmp 29),none⟩,
 ⟨some 32,.ld true 4 (.tmp 31),none⟩,
 ⟨some 7,.alloc 2 [(.d (.int .i64 0)),(.d (.int .i64 0)),(.d (.int .i64 0)),(.nils 1)],none⟩,
 ⟨none,.st 4 (.tmp 7) (.tmp 32),none⟩])
 (.seq
 (.reg [3] [⟨some 34,.mov (.tmp 5),none⟩,
 ⟨some 35,.fad 1 (.tmp 7),none⟩,
 ⟨some 36,.ld false 1 (.tmp 35),none⟩,
 ⟨some 37,.lkp (some .i64) (.agg [(.int .i64 0),(.int .i64 0),(.int .i64 0),(.slice 1 [])]) true (.tmp 34) (.tmp 36),none⟩,
 ⟨some 33,.mov (.tmp 37),none⟩,
 ⟨some 38,.ext 0 (.tmp 33),none⟩,
 ⟨some 39,.ext 1 (.tmp 33),none⟩,
 ⟨some 8,.alloc 3 [(.d (.int .i64 0)),(.d (.int .i64 0)),(.d (.int .i64 0)),(.nils 1)],none⟩,
 ⟨none,.st 4 (.tmp 8) (.tmp 38),none⟩,
 ⟨some 9,.mov (.tmp 39),none⟩])
 (.seq
 (.seq
 (.regd [] [⟨some 40,.fad 0 (.tmp 7),none⟩,
 ⟨some 41,.ld false 1 (.tmp 40),none⟩,
 ⟨some 42,.mov (.tmp 0),none⟩,
 ⟨some 43,.ixa 4 (.tmp 42) (.cst (.d (.int .i64 0))),none⟩,
 ⟨some 44,.fad 0 (.tmp 43),none⟩,
 ⟨some 45,.ld false 1 (.tmp 44),none⟩,
 ⟨some 46,.cmp .neq (.tmp 41) (.tmp 45),none⟩,
 ⟨some 47,.mov (.tmp 46),none⟩,
 ⟨some 48,.fad 2 (.tmp 7),some (47,false)⟩,
 ⟨some 49,.ld false 1 (.tmp 48),some (47,false)⟩,
 ⟨some 50,.mov (.tmp 0),some (47,false)⟩,
 ⟨some 51,.ixa 4 (.tmp 50) (.cst (.d (.int .i64 0))),some (47,false)⟩,
 ⟨some 52,.fad 2 (.tmp 51),some (47,false)⟩,
 ⟨some 53,.ld false 1 (.tmp 52),some (47,false)⟩,
 ⟨some 54,.cmp .neq (.tmp 49) (.tmp 53),some (47,false)⟩,
 ⟨some 55,.pick (.tmp 47) (.cst (.d (.bool true))) (.tmp 54),none⟩,
 ⟨some 56,.mov (.tmp 55),none⟩,
 ⟨some 57,.mov (.tmp 9),some (56,false)⟩,
 ⟨some 58,.mov (.tmp 57),some (56,false)⟩,
 ⟨some 59,.fad 3 (.tmp 8),some (58,true)⟩,
 ⟨some 60,.ld false 1 (.tmp 59),some (58,true)⟩,
 ⟨some 61,.fad 3 (.tmp 7),some (58,true)⟩,
 ⟨some 62,.ld false 1 (.tmp 61),some (58,true)⟩,
 ⟨some 63,.call 84 [(.tmp 60),(.tmp 62)],some (58,true)⟩,
 ⟨some 64,.not (.tmp 63),some (58,true)⟩,
 ⟨some 65,.pick (.tmp 58) (.tmp 64) (.cst (.d (.bool false))),some (56,false)⟩,
 ⟨some 66,.pick (.tmp 56) (.cst (.d (.bool true))) (.tmp 65),none⟩] [(0,2),(1,2),(0,3),(1,3),(0,4),(1,4),(0,5),(1,5),(8,10),(9,10),(8,11),(9,11),(8,12),(9,12),(8,13),(9,13),(19,21),(20,21),(19,22),(20,22)])
 (.cond (.tmp 66)
 (.seq
 (.reg [] [⟨some 2,.mov (.cst (.nils 1)),none⟩,
 ⟨some 3,.mov (.cst (.d (.int .i64 24))),none⟩])
 .ret)
 .skip))
 (.reg [] [⟨some 67,.mov (.tmp 5),none⟩,
 ⟨some 68,.fad 1 (.tmp 7),none⟩,
 ⟨some 69,.ld false 1 (.tmp 68),none⟩,
 ⟨some 70,.ld true 4 (.tmp 7),none⟩,
 ⟨none,.mpu (some .i64) (.tmp 67) (.tmp 69) (.tmp 70),none⟩])))))
 (.reg [] [⟨some 71,.arith .add .i64 (.tmp 29) (.cst (.d (.int .i64 1))),none⟩,
 ⟨some 29,.mov (.tmp 71),none⟩]))))))))))
 (.seq
 (.reg [] [⟨some 10,.mov (.cst (.nils 1)),none⟩])
 (.seq
 (.reg [] [⟨some 11,.mov (.cst (.d (.bool true))),none⟩])
 (.seq
 .skip
 (.seq
 (.seq
 (.reg [] [⟨some 72,.mov (.tmp 0),none⟩,
 ⟨some 73,.ixa 4 (.tmp 72) (.cst (.d (.int .i64 0))),none⟩,
 ⟨some 74,.fad 2 (.tmp 73),none⟩,
 ⟨some 75,.ld false 1 (.tmp 74),none⟩,
 ⟨some 76,.mov (.cst (.d (.int .i64 0))),none⟩])
 (.post [10,11] [0,1,2,3,4,5]
 (.block 2
 (.asrow 5 5 1 10
 (.keep [5,10,11,75,76] [0,1,2,3]
 (.loop
 (.post [5,10,11,75,76] [4,5]
 (.seq
 (.reg [] [⟨some 77,.cmp .lss (.tmp 76) (.tmp 75),none⟩])
 (.seq
 (.cond (.tmp 77)
 .skip
 (.exit 2))
 (.seq
 (.block 3
 (.seq
 (.reg [] [⟨some 78,.mov (.tmp 76),none⟩,
 ⟨some 12,.mov (.tmp 78),none⟩])
 (.seq
 (.reg [4] [⟨some 80,.mov (.tmp 5),none⟩,
 ⟨some 81,.mov (.tmp 12),none⟩,
 ⟨some 82,.lkp (some .i64) (.agg [(.int .i64 0),(.int .i64 0),(.int .i64 0),(.slice 1 [])]) true (.tmp 80) (.tmp 81),none⟩,
 ⟨some 79,.mov (.tmp 82),none⟩,
 ⟨some 83,.ext 0 (.tmp 79),none⟩,
 ⟨some 84,.ext 1 (.tmp 79),none⟩,
 ⟨some 13,.alloc 4 [(.d (.int .i64 0)),(.d (.int .i64 0)),(.d (.int .i64 0)),(.nils 1)],none⟩,
 ⟨none,.st 4 (.tmp 13) (.tmp 83),none⟩,
 ⟨some 14,.mov (.tmp 84),none⟩])
 (.seq
 (.seq
 (.reg [] [⟨some 85,.mov (.tmp 14),none⟩,
 ⟨some 86,.not (.tmp 85),none⟩])
 (.cond (.tmp 86)
 (.seq
 (.reg [] [⟨some 11,.mov (.cst (.d (.bool false))),none⟩])
 (.exit 2))
 .skip))
 (.reg [5] [⟨some 87,.mov (.tmp 10),none⟩,
 ⟨some 88,.fad 3 (.tmp 13),none⟩,
 ⟨some 89,.ld false 1 (.tmp 88),none⟩,
 ⟨some 90,.app 5 5 1 1 (.tmp 87) (.tmp 89),none⟩,
 ⟨some 10,.mov (.tmp 90),none⟩])))))
 (.reg [] [⟨some 91,.arith .add .i64 (.tmp 76) (.cst (.d (.int .i64 1))),none⟩,
 ⟨some 76,.mov (.tmp 91),none⟩])))))))))))
 (.seq
 (.seq
 (.reg [] [⟨some 92,.mov (.tmp 11),none⟩,
 ⟨some 93,.not (.tmp 92),none⟩])
 (.cond (.tmp 93)
 (.seq
 (.reg [] [⟨some 2,.mov (.cst (.nils 1)),none⟩,
 ⟨some 3,.mov (.cst (.d (.int .i64 16))),none⟩])
 .ret)
 .skip))
 (.seq
 (.reg [] [⟨some 94,.mov (.tmp 10),none⟩,
 ⟨some 2,.mov (.tmp 94),none⟩,
 ⟨some 3,.mov (.cst (.d (.int .i64 0))),none⟩])
 .ret)))))))))))⟩
noncomputable def joinL (l:List Fr):List UInt8 × Int:=match checkFrames l != 0 with
 | true=>([],checkFrames l)
 | false=>joinR l
def joinHead (l:List Fr):Int:=firstOf [checkFrames l,bif ((l.length:Int)==0) then 12 else 0]
theorem head_bad {l:List Fr} (h:(joinHead l != 0)=true):joinL l=([],joinHead l):=by
 unfold joinHead at *
 simp only [firstOf] at *
 unfold joinL
 cases h1:checkFrames l != 0
 ·rw [h1] at h
  cases h2:((l.length:Int)==0)
  ·rw [h2] at h; cases h
  ·have e:l=[]:=List.eq_nil_of_length_eq_zero (by have:=eq_of_beq h2; omega)
   subst e
   rfl
 ·rfl
theorem head_ok {l:List Fr} (h:(joinHead l != 0)=false):checkFrames l=0∧0 < l.length∧joinL l=joinR l:=by
 unfold joinHead at *
 simp only [firstOf] at *
 unfold joinL
 cases h1:checkFrames l != 0
 ·rw [h1] at h
  cases h2:((l.length:Int)==0)
  ·refine ⟨by simpa using h1,by have:=ne_of_beq_false h2; omega,rfl⟩
  ·rw [h2] at h; cases h
 ·rw [h1] at h
  have h:(checkFrames l != 0)=false:=h
  rw [h] at h1; cases h1
theorem jl {l:List Fr} {p:List UInt8 × Int} (h:joinL l=p):resV [.slice 1 (p.1.map byt),.int .i64 p.2]=resV [.slice 1 ((joinL l).1.map byt),.int .i64 (joinL l).2]:=by rw [h]
theorem jl' {l:List Fr} {b:List UInt8} {acc:List Data} (h:joinL l=(b,0)) (hb:acc=b.map byt):resV [.slice 1 acc,.int .i64 0]=resV [.slice 1 ((joinL l).1.map byt),.int .i64 (joinL l).2]:=by rw [h,hb]
theorem step_clean {l : List Fr} {f0 x : Fr} {k : Nat} (hf0 : l[0]? = some f0) (hx : l[k]? = some x) (hcl : clean (l.take k)) (hm : x.m = f0.m) (hn : x.n = f0.n)
  (hb:∀ g,lastP (l.take k) x.p=some g→g.b=x.b):clean (l.take (k+1)):=by
 rw [take_one hx]
 refine clean_snoc hcl fun y hy=>?_
 have h0:f0∈l.take k:=by
  obtain ⟨j,hj,_⟩:=mem_take_get hy
  exact mem_take hf0 (by omega)
 obtain ⟨h1,h2,_⟩:=clash_iff.1 (hcl f0 h0 y hy)
 refine clash_iff.2 ⟨hm.trans h1,hn.trans h2,fun e=>?_⟩
 cases hl:lastP (l.take k) x.p with
 | none=>exact absurd e.symm (lastP_none hl y hy)
 | some g =>
  obtain ⟨g1,g2⟩:=lastP_mem hl
  rw [← hb g hl]
  exact (clash_iff.1 (hcl g g1 y hy)).2.2 (g2.trans e)
theorem c14 (l:List Fr) (hl0:l.length≤1048576):CallDet Tryz.prog 28 [.d (.slice 4 (frs l))] [.slice 1 ((joinL l).1.map byt),.int .i64 (joinL l).2]:=by
 have hlen:=frs_len l
 refine call_of_vc (x:=ir14) (by kernel_rfl) rfl ?_
 refine ca (c85 l hl0) ?_
 refine sd ?_
 refine ca (c83 _ _) ?_
 refine sd ?_
 refine sd ?_
 have hh:CallDet Tryz.prog 46 [.d (.slice 1 (ints [checkFrames l,bif (((frs l).length:Int)==0) then 12 else 0]))] [.int .i64 (joinHead l)]:=by
  rw [hlen]; exact c81 [checkFrames l,bif ((l.length:Int)==0) then 12 else 0] (by simp)
 refine ca hh ?_
 refine sd ?_
 refine b_intro ?_ ?_
 ·intro h
  have h:(joinHead l != 0)=true:=h
  exact jl (head_bad h)
 intro h
 have h:(joinHead l != 0)=false:=h
 have hok:=head_ok h
 have hpos:0 < l.length:=hok.2.1
 have hJ:joinL l=joinR l:=hok.2.2
 have hl:l.length≤64:=(checks_zero hok.1).1
 have hc:∀ f∈l,f.check=0:=(checks_zero hok.1).2
 refine Exists.elim (⟨_,List.getElem?_eq_getElem hpos⟩:∃ f,l[0]?=some f) fun f0 hf0=>?_
 have hd0:(frs l)[(0:Int).toNat]?=some f0.d:=by simp [frs,hf0]
 have hn0:1≤f0.n∧f0.n≤64:=by
  have:=check_fr (hc f0 (List.mem_of_getElem? hf0)); omega
 refine loop_st (fun a:Nat × List (Data × Data)=>⟨[(0,.d (.slice 4 (frs l))),(5,.mp 1),(27,.d (.slice 4 (frs l))),(28,.d (.int .i64 (frs l).length)),(29,.d (.int .i64 a.1))],[.none,.mapo a.2,.none,.none,.none,.none]⟩)
  (fun a=>(keysOk (some .i64) a.2=true∧∀ q,findM (.int .i64 q) a.2=(lastP (l.take a.1) q).map Fr.d)∧clean (l.take a.1)∧a.1≤l.length) (fun a=>l.length - a.1) (0,[]) rfl ⟨⟨rfl,fun q=>rfl⟩,clean_nil,Nat.zero_le _⟩ ?_
 rintro ⟨k,es⟩ ⟨⟨hks,hfd⟩,hcl,hkl⟩
 have hks:keysOk (some .i64) es=true:=hks
 have hfd:∀ q,findM (.int .i64 q) es=(lastP (l.take k) q).map Fr.d:=hfd
 have hcl:clean (l.take k):=hcl
 have hkl:k≤l.length:=hkl
 refine sd ?_
 refine b_intro ?_ ?_
 ·intro h
  have h:(k:Int) < (frs l).length:=of_decide_eq_true h
  refine Exists.elim (⟨_,List.getElem?_eq_getElem (by omega)⟩:∃ x,l[k]?=some x) fun x hx=>?_
  have hdx:(frs l)[(k:Int).toNat]?=some x.d:=by simp [frs,hx]
  have bad:∀ y,y∈l→clash x y=true→joinL l=([],24):=fun y hy hcl=>hJ.trans (joinR_clash fun hcc=>by
   rw [hcc x (List.mem_of_getElem? hx) y hy] at hcl; cases hcl)
  have bad0:=bad f0 (List.mem_of_getElem? hf0)
  have next : ∀ (hm : (x.m != f0.m) = false) (hn : (x.n != f0.n) = false) (hb : ∀ g, lastP (l.take k) x.p = some g → g.b = x.b),
    ((keysOk (some .i64) (putM (.int .i64 x.p) x.d es)=true∧∀ q,findM (.int .i64 q) (putM (.int .i64 x.p) x.d es)=(lastP (l.take (k+1)) q).map Fr.d)∧clean (l.take (k+1))∧k+1≤l.length)∧l.length - (k+1) < l.length - k:=fun hm hn hb=>by
   refine ⟨⟨⟨keys_put hks,fun q=>?_⟩,step_clean hf0 hx hcl (by simpa using hm) (by simpa using hn) hb,by omega⟩,by omega⟩
   rw [find_put hks,take_one hx,lastP_snoc]
   by_cases e:x.p=q
   ·rw [if_pos e,if_pos e]; rfl
   ·rw [if_neg e,if_neg e]; exact hfd q
  refine ix_at hdx (by omega) ?_
  refine Or.elim (show (∃ g,lastP (l.take k) x.p=some g)∨lastP (l.take k) x.p=none by cases lastP (l.take k) x.p with | none=>exact .inr rfl | some g=>exact .inl ⟨g,rfl⟩) (fun hg=>Exists.elim hg fun g hg=>?_) (fun hg=>?_)
  ·have hfg:findM (.int .i64 x.p) es=some g.d:=by rw [hfd,hg]; rfl
   refine Exists.intro [g.d,.bool true] (And.intro ⟨rfl,hks,Or.inl ⟨g.d,hfg,rfl⟩⟩ ?_)
   refine ix_at hd0 (by decide) ?_
   refine sd ?_
   refine b_intro ?_ ?_
   ·intro h3
    have h3:(x.m != f0.m)=true:=h3
    repeat refine sd ?_
    exact jl (bad0 (by simp only [clash,h3]; rfl))
   intro h3
   have h3:(x.m != f0.m)=false:=h3
   refine ix_at hd0 (by decide) ?_
   repeat refine sd ?_
   refine b_intro ?_ ?_
   ·intro h4
    have h4:(x.n != f0.n)=true:=h4
    repeat refine sd ?_
    exact jl (bad0 (by simp only [clash,h4,Bool.true_or,Bool.or_true]))
   intro h4
   have h4:(x.n != f0.n)=false:=h4
   have hgm:=lastP_mem hg
   refine ca (c86 g.b x.b (by have:=(check_fr (hc g (List.mem_of_mem_take hgm.1))).2.2.2; omega)) ?_
   repeat refine sd ?_
   refine b_intro ?_ ?_
   ·intro h6
    have h6:(!(g.b==x.b))=true:=h6
    have hcx:clash x g=true:=by
     cases hh:clash x g with
     | true=>rfl
     | false =>
      have:=(clash_iff.1 hh).2.2 hgm.2.symm
      rw [this] at h6; simp at h6
    exact jl (bad g (List.mem_of_mem_take hgm.1) hcx)
   ·intro h6
    have h6:(!(g.b==x.b))=false:=h6
    have hgx:∀ g',lastP (l.take k) x.p=some g'→g'.b=x.b:=fun g' hg'=>by
     rw [hg] at hg'
     cases hg'
     simpa using h6
    refine And.intro ⟨rfl,hks⟩ ?_
    refine ar_add (by omega) ?_
    exact ⟨(k+1,putM (.int .i64 x.p) x.d es),next h3 h4 hgx,rfl⟩
  ·have hfg:findM (.int .i64 x.p) es=none:=by rw [hfd,hg]; rfl
   refine Exists.intro [.agg [.int .i64 0,.int .i64 0,.int .i64 0,.slice 1 []],.bool false] (And.intro ⟨rfl,hks,Or.inr ⟨hfg,rfl⟩⟩ ?_)
   refine ix_at hd0 (by decide) ?_
   refine sd ?_
   refine b_intro ?_ ?_
   ·intro h3
    have h3:(x.m != f0.m)=true:=h3
    repeat refine sd ?_
    exact jl (bad0 (by simp only [clash,h3]; rfl))
   intro h3
   have h3:(x.m != f0.m)=false:=h3
   refine ix_at hd0 (by decide) ?_
   repeat refine sd ?_
   refine b_intro ?_ ?_
   ·intro h4
    have h4:(x.n != f0.n)=true:=h4
    repeat refine sd ?_
    exact jl (bad0 (by simp only [clash,h4,Bool.true_or,Bool.or_true]))
   intro h4
   have h4:(x.n != f0.n)=false:=h4
   repeat refine sd ?_
   have hgx:∀ g',lastP (l.take k) x.p=some g'→g'.b=x.b:=fun g' hg'=>by
    rw [hg] at hg'
    cases hg'
   refine And.intro ⟨rfl,hks⟩ ?_
   refine ar_add (by omega) ?_
   exact ⟨(k+1,putM (.int .i64 x.p) x.d es),next h3 h4 hgx,rfl⟩
 ·intro h
  have h:¬ (k:Int) < (frs l).length:=of_decide_eq_false h
  have hk2:l.take k=l:=List.take_of_length_le (by omega)
  have hcl2:clean l:=hk2 ▸ hcl
  have hfd2:∀ q,findM (.int .i64 q) es=(lastP l q).map Fr.d:=fun q=>by rw [hfd,hk2]
  have hlf:∀ q,(lastP l q).map Fr.b=(findP l q).map Fr.b:=last_find hcl2
  refine ix_at hd0 (by decide) ?_
  refine loop_st (fun a:Nat × List Data=>⟨[(5,.mp 1),(10,.sl 5 a.2.length),(11,.d (.bool true)),(75,.d (.int .i64 f0.n)),(76,.d (.int .i64 a.1))],[.none,.mapo es,.none,.none,.none,.row 5 1 a.2 false]⟩)
   (fun a=>(∃ b,joinUpto l a.1=some b∧a.2=b.map byt∧b.length≤12 * a.1)∧(a.1:Int)≤f0.n) (fun a=>f0.n.toNat - a.1) (0,[]) rfl ⟨⟨[],rfl,rfl,by simp⟩,by show ((0:Nat):Int)≤_; omega⟩ ?_
  rintro ⟨q,acc⟩ ⟨⟨b,hb1,hb2,hb3⟩,hq⟩
  have hb1:joinUpto l q=some b:=hb1
  have hb2:acc=b.map byt:=hb2
  have hb3:b.length≤12 * q:=hb3
  have hq:(q:Int)≤f0.n:=hq
  have hal:acc.length=b.length:=by rw [hb2]; simp
  refine sd ?_
  refine b_intro ?_ ?_
  ·intro h
   have h:(q:Int) < f0.n:=of_decide_eq_true h
   refine Or.elim (show (∃ g,lastP l q=some g)∨lastP l q=none by cases lastP l q with | none=>exact .inr rfl | some g=>exact .inl ⟨g,rfl⟩) (fun hg=>Exists.elim hg fun g hg=>?_) (fun hg=>?_)
   ·have hfg:findM (.int .i64 q) es=some g.d:=by rw [hfd2,hg]; rfl
    have hgb:g.b.length≤12:=(check_fr (hc g (lastP_mem hg).1)).2.2.2
    have hnx:joinUpto l (q+1)=some (b++g.b):=by
     have:=hlf q
     rw [hg] at this
     cases hf:findP l q with
     | none=>rw [hf] at this; cases this
     | some g' =>
      rw [hf] at this
      have this:some g.b=some g'.b:=this
      simp only [joinUpto,hb1,hf,Option.some.inj this]
    refine Exists.intro [g.d,.bool true] (And.intro ⟨rfl,hks,Or.inl ⟨g.d,hfg,rfl⟩⟩ ?_)
    repeat refine sd ?_
    refine And.intro ⟨rfl,rfl,rfl,?_,?_⟩ ?_
    ·show (acc.length+(g.b.map byt).length) * 1≤2 ^ 47
     rw [hal,List.length_map]; omega
    ·show acc.length+(g.b.map byt).length≤2 ^ 47
     rw [hal,List.length_map]; omega
    refine ar_add (by omega) ?_
    refine ⟨(q+1,acc++g.b.map byt),⟨⟨⟨b++g.b,hnx,?_,?_⟩,by show ((q+1:Nat):Int)≤_; omega⟩,by show f0.n.toNat - (q+1) < f0.n.toNat - q; omega⟩,rfl⟩
    ·show acc++g.b.map byt=_
     rw [hb2]; simp
    ·show (b++g.b).length≤12 * (q+1)
     simp; omega
   ·have hfg:findM (.int .i64 q) es=none:=by rw [hfd2,hg]; rfl
    have hfn:findP l q=none:=by
     have:=hlf q
     rw [hg] at this
     cases hf:findP l q with
     | none=>rfl
     | some g'=>rw [hf] at this; cases this
    refine Exists.intro [.agg [.int .i64 0,.int .i64 0,.int .i64 0,.slice 1 []],.bool false] (And.intro ⟨rfl,hks,Or.inr ⟨hfg,rfl⟩⟩ ?_)
    repeat refine sd ?_
    exact jl (hJ.trans (joinR_none hf0 hcl2 (joinUpto_none hfn (by omega))))
  ·intro h
   have h:¬ (q:Int) < f0.n:=of_decide_eq_false h
   have e:f0.n.toNat=q:=by omega
   repeat refine sd ?_
   exact jl' (hJ.trans (joinR_some hf0 hcl2 (e ▸ hb1))) hb2
end Vc.L
set_option maxRecDepth 10000
namespace Vc.L
open Go Go.Proofs
end Vc.L
set_option maxRecDepth 10000
namespace Vc.L
open Go Go.Proofs
def ir101:AFun:=⟨11,1,[.tmp 2],
 (.seq
 (.reg [] [⟨some 2,.mov (.cst (.d (.int .i64 0))),none⟩])
 (.seq
 (.seq
 (.reg [] [⟨some 4,.mov (.tmp 0),none⟩,
 ⟨some 5,.len (.tmp 4),none⟩,
 ⟨some 6,.cmp .gtr (.tmp 5) (.cst (.d (.int .i64 64))),none⟩])
 (.cond (.tmp 6)
 (.seq
 (.reg [] [⟨some 2,.mov (.cst (.d (.int .i64 5))),none⟩])
 .ret)
 .skip))
 (.seq
 (.reg [0] [⟨some 3,.alloc 0 [.undef],none⟩,
 ⟨none,.st 1 (.tmp 3) (.cst (.d (.fn (.func 110) []))),none⟩])
 (.seq
 (.reg [] [⟨some 7,.mov (.tmp 0),none⟩,
 ⟨some 8,.mkf (.func 112) [] [(.tmp 3)],none⟩,
 ⟨some 9,.call 111 [(.tmp 7),(.tmp 8)],none⟩,
 ⟨some 10,.call 46 [(.tmp 9)],none⟩,
 ⟨some 2,.mov (.tmp 10),none⟩])
 .ret))))⟩
def ir134:AFun:=⟨5,0,[.tmp 2],
 (.seq
 (.reg [] [⟨some 2,.mov (.cst (.d (.int .i64 0))),none⟩])
 (.seq
 (.reg [] [⟨some 3,.mov (.tmp 0),none⟩,
 ⟨some 4,.call 48 [(.tmp 3),(.cst (.d (.int .i64 0))),(.cst (.d (.int .i64 7)))],none⟩,
 ⟨some 2,.mov (.tmp 4),none⟩])
 .ret))⟩
def ir135:AFun:=⟨22,3,[.tmp 4],
 (.seq
 (.reg [] [⟨some 4,.mov (.cst (.nils 1)),none⟩])
 (.seq
 (.reg [] [⟨some 5,.mov (.cst (.nils 1)),none⟩])
 (.seq
 (.seq
 (.reg [] [⟨some 8,.mov (.tmp 0),none⟩,
 ⟨some 9,.len (.tmp 8),none⟩,
 ⟨some 10,.mov (.cst (.d (.int .i64 0))),none⟩])
 (.post [5] [0,1,2]
 (.block 0
 (.asrow 2 33 1 5
 (.keep [1,5,8,9,10] []
 (.loop
 (.post [1,5,8,9,10] [0,1,2]
 (.seq
 (.reg [] [⟨some 11,.cmp .lss (.tmp 10) (.tmp 9),none⟩])
 (.seq
 (.cond (.tmp 11)
 .skip
 (.exit 0))
 (.seq
 (.block 1
 (.seq
 (.reg [0] [⟨some 12,.ixa 3 (.tmp 8) (.tmp 10),none⟩,
 ⟨some 13,.ld true 3 (.tmp 12),none⟩,
 ⟨some 7,.alloc 0 [(.nils 1),(.nils 1),(.d (.bool false))],none⟩,
 ⟨none,.st 3 (.tmp 7) (.tmp 13),none⟩])
 (.reg [1,2] [⟨some 14,.mov (.tmp 5),none⟩,
 ⟨some 15,.mov (.tmp 1),none⟩,
 ⟨some 16,.ld true 3 (.tmp 7),none⟩,
 ⟨some 17,.callv (.tmp 15) [(.tmp 16)],none⟩,
 ⟨some 18,.bsl 1 33 1 1 [(.int .i64 0)] [(0,(.tmp 17))],none⟩,
 ⟨some 19,.app 2 33 1 8 (.tmp 14) (.tmp 18),none⟩,
 ⟨some 5,.mov (.tmp 19),none⟩])))
 (.reg [] [⟨some 20,.arith .add .i64 (.tmp 10) (.cst (.d (.int .i64 1))),none⟩,
 ⟨some 10,.mov (.tmp 20),none⟩])))))))))))
 (.seq
 (.reg [] [⟨some 21,.mov (.tmp 5),none⟩,
 ⟨some 4,.mov (.tmp 21),none⟩])
 .ret))))⟩
def ir136:AFun:=⟨16,2,[.tmp 3],
 (.seq
 (.reg [0] [⟨some 2,.cbx 0 3 (.tmp 0),none⟩,
 ⟨some 3,.mov (.cst (.d (.int .i64 0))),none⟩])
 (.seq
 (.regd [1] [⟨some 4,.fad 0 (.tmp 2),none⟩,
 ⟨some 5,.ld false 1 (.tmp 4),none⟩,
 ⟨some 6,.ld false 1 (.tmp 1),none⟩,
 ⟨some 7,.call 113 [(.tmp 5),(.tmp 6)],none⟩,
 ⟨some 8,.call 46 [(.tmp 7)],none⟩,
 ⟨some 9,.fad 1 (.tmp 2),none⟩,
 ⟨some 10,.ld false 1 (.tmp 9),none⟩,
 ⟨some 11,.ld false 1 (.tmp 1),none⟩,
 ⟨some 12,.call 113 [(.tmp 10),(.tmp 11)],none⟩,
 ⟨some 13,.call 46 [(.tmp 12)],none⟩,
 ⟨some 14,.bsl 1 33 1 2 [(.int .i64 0),(.int .i64 0)] [(0,(.tmp 8)),(1,(.tmp 13))],none⟩,
 ⟨some 15,.call 46 [(.tmp 14)],none⟩,
 ⟨some 3,.mov (.tmp 15),none⟩] [(0,2),(1,2),(0,5),(1,5),(2,5),(3,5),(4,5),(0,6),(1,6),(2,6),(3,6),(4,6),(0,7),(1,7),(2,7),(3,7),(4,7),(5,7),(6,7)])
 .ret))⟩
def ir137:AFun:=⟨22,2,[.tmp 4],
 (.seq
 (.reg [] [⟨some 4,.mov (.cst (.nils 1)),none⟩])
 (.seq
 (.reg [] [⟨some 5,.mov (.cst (.nils 1)),none⟩])
 (.seq
 (.seq
 (.reg [] [⟨some 8,.mov (.tmp 0),none⟩,
 ⟨some 9,.len (.tmp 8),none⟩,
 ⟨some 10,.mov (.cst (.d (.int .i64 0))),none⟩])
 (.post [5] [0,1]
 (.block 0
 (.asrow 1 33 1 5
 (.keep [1,5,8,9,10] []
 (.loop
 (.post [1,5,8,9,10] [0,1]
 (.seq
 (.reg [] [⟨some 11,.cmp .lss (.tmp 10) (.tmp 9),none⟩])
 (.seq
 (.cond (.tmp 11)
 .skip
 (.exit 0))
 (.seq
 (.block 1
 (.seq
 (.reg [] [⟨some 12,.ixa 1 (.tmp 8) (.tmp 10),none⟩,
 ⟨some 13,.ld false 1 (.tmp 12),none⟩,
 ⟨some 7,.mov (.tmp 13),none⟩])
 (.reg [0,1] [⟨some 14,.mov (.tmp 5),none⟩,
 ⟨some 15,.mov (.tmp 1),none⟩,
 ⟨some 16,.mov (.tmp 7),none⟩,
 ⟨some 17,.callv (.tmp 15) [(.tmp 16)],none⟩,
 ⟨some 18,.bsl 0 33 1 1 [(.int .i64 0)] [(0,(.tmp 17))],none⟩,
 ⟨some 19,.app 1 33 1 8 (.tmp 14) (.tmp 18),none⟩,
 ⟨some 5,.mov (.tmp 19),none⟩])))
 (.reg [] [⟨some 20,.arith .add .i64 (.tmp 10) (.cst (.d (.int .i64 1))),none⟩,
 ⟨some 10,.mov (.tmp 20),none⟩])))))))))))
 (.seq
 (.reg [] [⟨some 21,.mov (.tmp 5),none⟩,
 ⟨some 4,.mov (.tmp 21),none⟩])
 .ret))))⟩
def ir139:AFun:=⟨31,2,[.tmp 4],
 (.seq
 (.reg [0,1] [⟨some 2,.cbx 0 4 (.tmp 0),none⟩,
 ⟨some 3,.cbx 1 4 (.tmp 1),none⟩,
 ⟨some 4,.mov (.cst (.d (.bool false))),none⟩])
 (.seq
 (.reg [] [⟨some 5,.fad 0 (.tmp 2),none⟩,
 ⟨some 6,.ld false 1 (.tmp 5),none⟩,
 ⟨some 7,.fad 0 (.tmp 3),none⟩,
 ⟨some 8,.ld false 1 (.tmp 7),none⟩,
 ⟨some 9,.cmp .eql (.tmp 6) (.tmp 8),none⟩,
 ⟨some 10,.mov (.tmp 9),none⟩,
 ⟨some 11,.fad 1 (.tmp 2),some (10,true)⟩,
 ⟨some 12,.ld false 1 (.tmp 11),some (10,true)⟩,
 ⟨some 13,.fad 1 (.tmp 3),some (10,true)⟩,
 ⟨some 14,.ld false 1 (.tmp 13),some (10,true)⟩,
 ⟨some 15,.cmp .eql (.tmp 12) (.tmp 14),some (10,true)⟩,
 ⟨some 16,.pick (.tmp 10) (.tmp 15) (.cst (.d (.bool false))),none⟩,
 ⟨some 17,.mov (.tmp 16),none⟩,
 ⟨some 18,.fad 2 (.tmp 2),some (17,true)⟩,
 ⟨some 19,.ld false 1 (.tmp 18),some (17,true)⟩,
 ⟨some 20,.fad 2 (.tmp 3),some (17,true)⟩,
 ⟨some 21,.ld false 1 (.tmp 20),some (17,true)⟩,
 ⟨some 22,.cmp .eql (.tmp 19) (.tmp 21),some (17,true)⟩,
 ⟨some 23,.pick (.tmp 17) (.tmp 22) (.cst (.d (.bool false))),none⟩,
 ⟨some 24,.mov (.tmp 23),none⟩,
 ⟨some 25,.fad 3 (.tmp 2),some (24,true)⟩,
 ⟨some 26,.ld false 1 (.tmp 25),some (24,true)⟩,
 ⟨some 27,.fad 3 (.tmp 3),some (24,true)⟩,
 ⟨some 28,.ld false 1 (.tmp 27),some (24,true)⟩,
 ⟨some 29,.call 84 [(.tmp 26),(.tmp 28)],some (24,true)⟩,
 ⟨some 30,.pick (.tmp 24) (.tmp 29) (.cst (.d (.bool false))),none⟩,
 ⟨some 4,.mov (.tmp 30),none⟩])
 .ret))⟩
def ir138:AFun:=⟨32,2,[.tmp 6],
 (.seq
 (.reg [] [⟨some 6,.mov (.cst (.d (.bool false))),none⟩])
 (.seq
 (.seq
 (.reg [] [⟨some 10,.mov (.tmp 0),none⟩,
 ⟨some 11,.len (.tmp 10),none⟩,
 ⟨some 12,.mov (.tmp 1),none⟩,
 ⟨some 13,.len (.tmp 12),none⟩,
 ⟨some 14,.cmp .neq (.tmp 11) (.tmp 13),none⟩])
 (.cond (.tmp 14)
 (.seq
 (.reg [] [⟨some 6,.mov (.cst (.d (.bool false))),none⟩])
 .ret)
 .skip))
 (.seq
 (.seq
 (.reg [] [⟨some 15,.mov (.tmp 0),none⟩,
 ⟨some 16,.len (.tmp 15),none⟩,
 ⟨some 17,.mov (.cst (.d (.int .i64 0))),none⟩])
 (.post [] [0,1]
 (.block 0
 (.keep [1,2,15,16,17] []
 (.loop
 (.post [1,2,15,16,17] [0,1]
 (.seq
 (.reg [] [⟨some 18,.cmp .lss (.tmp 17) (.tmp 16),none⟩])
 (.seq
 (.cond (.tmp 18)
 .skip
 (.exit 0))
 (.seq
 (.block 1
 (.seq
 (.reg [0] [⟨some 19,.mov (.tmp 17),none⟩,
 ⟨some 20,.ixa 4 (.tmp 15) (.tmp 17),none⟩,
 ⟨some 21,.ld true 4 (.tmp 20),none⟩,
 ⟨some 8,.alloc 0 [(.d (.int .i64 0)),(.d (.int .i64 0)),(.d (.int .i64 0)),(.nils 1)],none⟩,
 ⟨some 7,.mov (.tmp 19),none⟩,
 ⟨none,.st 4 (.tmp 8) (.tmp 21),none⟩])
 (.seq
 (.reg [1] [⟨some 22,.mov (.tmp 1),none⟩,
 ⟨some 23,.mov (.tmp 7),none⟩,
 ⟨some 24,.ixa 4 (.tmp 22) (.tmp 23),none⟩,
 ⟨some 25,.ld true 4 (.tmp 24),none⟩,
 ⟨some 9,.alloc 1 [(.d (.int .i64 0)),(.d (.int .i64 0)),(.d (.int .i64 0)),(.nils 1)],none⟩,
 ⟨none,.st 4 (.tmp 9) (.tmp 25),none⟩])
 (.seq
 (.reg [] [⟨some 26,.mov (.tmp 2),none⟩,
 ⟨some 27,.ld true 4 (.tmp 8),none⟩,
 ⟨some 28,.ld true 4 (.tmp 9),none⟩,
 ⟨some 29,.callv (.tmp 26) [(.tmp 27),(.tmp 28)],none⟩,
 ⟨some 30,.not (.tmp 29),none⟩])
 (.cond (.tmp 30)
 (.seq
 (.reg [] [⟨some 6,.mov (.cst (.d (.bool false))),none⟩])
 .ret)
 .skip)))))
 (.reg [] [⟨some 31,.arith .add .i64 (.tmp 17) (.cst (.d (.int .i64 1))),none⟩,
 ⟨some 17,.mov (.tmp 31),none⟩]))))))))))
 (.seq
 (.reg [] [⟨some 6,.mov (.cst (.d (.bool true))),none⟩])
 .ret))))⟩
def ir140:AFun:=⟨19,0,[.tmp 4],
 (.seq
 (.reg [] [⟨some 4,.mov (.cst (.d (.int .i64 0))),none⟩])
 (.seq
 (.seq
 (.reg [] [⟨some 6,.mov (.tmp 0),none⟩,
 ⟨some 7,.len (.tmp 6),none⟩,
 ⟨some 8,.mov (.cst (.d (.int .i64 0))),none⟩])
 (.post [] []
 (.block 0
 (.keep [0,1,7,8] []
 (.loop
 (.post [0,1,7,8] []
 (.seq
 (.reg [] [⟨some 9,.cmp .lss (.tmp 8) (.tmp 7),none⟩])
 (.seq
 (.cond (.tmp 9)
 .skip
 (.exit 0))
 (.seq
 (.block 1
 (.seq
 (.reg [] [⟨some 10,.mov (.tmp 8),none⟩,
 ⟨some 5,.mov (.tmp 10),none⟩])
 (.seq
 (.reg [] [⟨some 11,.mov (.tmp 1),none⟩,
 ⟨some 12,.mov (.tmp 0),none⟩,
 ⟨some 13,.mov (.tmp 5),none⟩,
 ⟨some 14,.ixa 1 (.tmp 12) (.tmp 13),none⟩,
 ⟨some 15,.ld false 1 (.tmp 14),none⟩,
 ⟨some 16,.cmp .eql (.tmp 11) (.tmp 15),none⟩])
 (.cond (.tmp 16)
 (.seq
 (.reg [] [⟨some 17,.mov (.tmp 5),none⟩,
 ⟨some 4,.mov (.tmp 17),none⟩])
 .ret)
 .skip))))
 (.reg [] [⟨some 18,.arith .add .i64 (.tmp 8) (.cst (.d (.int .i64 1))),none⟩,
 ⟨some 8,.mov (.tmp 18),none⟩]))))))))))
 (.seq
 (.reg [] [⟨some 4,.mov (.cst (.d (.int .i64 (-1)))),none⟩])
 .ret)))⟩
def ir104:AFun:=⟨9,0,[.tmp 4],
 (.seq
 (.reg [] [⟨some 4,.mov (.cst (.d (.bool false))),none⟩])
 (.seq
 (.reg [] [⟨some 5,.mov (.tmp 0),none⟩,
 ⟨some 6,.mov (.tmp 1),none⟩,
 ⟨some 7,.call 119 [(.tmp 5),(.tmp 6)],none⟩,
 ⟨some 8,.cmp .geq (.tmp 7) (.cst (.d (.int .i64 0))),none⟩,
 ⟨some 4,.mov (.tmp 8),none⟩])
 .ret))⟩
def ir106:AFun:=⟨18,0,[.tmp 4],
 (.seq
 (.reg [] [⟨some 4,.mov (.cst (.d (.bool false))),none⟩])
 (.seq
 (.seq
 (.reg [] [⟨some 5,.mov (.cst (.d (.int .i64 0))),none⟩])
 (.post [] []
 (.block 0
 (.keep [0,1,5] []
 (.loop
 (.post [0,1,5] []
 (.seq
 (.seq
 (.reg [] [⟨some 6,.mov (.tmp 5),none⟩,
 ⟨some 7,.mov (.tmp 0),none⟩,
 ⟨some 8,.len (.tmp 7),none⟩,
 ⟨some 9,.cmp .lss (.tmp 6) (.tmp 8),none⟩])
 (.cond (.tmp 9)
 .skip
 (.exit 0)))
 (.seq
 (.block 1
 (.seq
 (.reg [] [⟨some 12,.mov (.tmp 0),none⟩,
 ⟨some 13,.mov (.tmp 5),none⟩,
 ⟨some 14,.ixa 1 (.tmp 12) (.tmp 13),none⟩,
 ⟨some 15,.ld false 1 (.tmp 14),none⟩,
 ⟨some 16,.mov (.tmp 1),none⟩,
 ⟨some 17,.cmp .eql (.tmp 15) (.tmp 16),none⟩])
 (.cond (.tmp 17)
 (.seq
 (.reg [] [⟨some 4,.mov (.cst (.d (.bool true))),none⟩])
 .ret)
 .skip)))
 (.reg [] [⟨some 10,.mov (.tmp 5),none⟩,
 ⟨some 11,.arith .add .i64 (.tmp 10) (.cst (.d (.int .i64 1))),none⟩,
 ⟨some 5,.mov (.tmp 11),none⟩])))))))))
 (.seq
 (.reg [] [⟨some 4,.mov (.cst (.d (.bool false))),none⟩])
 .ret)))⟩
def ir102:AFun:=⟨34,2,[.tmp 4],
 (.seq
 (.reg [0,1] [⟨some 2,.cbx 0 3 (.tmp 0),none⟩,
 ⟨some 3,.cbx 1 2 (.tmp 1),none⟩,
 ⟨some 4,.mov (.cst (.d (.bool false))),none⟩])
 (.seq
 (.regd [] [⟨some 5,.fad 0 (.tmp 3),none⟩,
 ⟨some 6,.ld false 1 (.tmp 5),none⟩,
 ⟨some 7,.fad 1 (.tmp 2),none⟩,
 ⟨some 8,.ld false 1 (.tmp 7),none⟩,
 ⟨some 9,.cmp .geq (.tmp 6) (.tmp 8),none⟩,
 ⟨some 10,.mov (.tmp 9),none⟩,
 ⟨some 11,.fad 0 (.tmp 3),some (10,true)⟩,
 ⟨some 12,.ld false 1 (.tmp 11),some (10,true)⟩,
 ⟨some 13,.fad 0 (.tmp 2),some (10,true)⟩,
 ⟨some 14,.ld false 1 (.tmp 13),some (10,true)⟩,
 ⟨some 15,.len (.tmp 14),some (10,true)⟩,
 ⟨some 16,.fad 1 (.tmp 2),some (10,true)⟩,
 ⟨some 17,.ld false 1 (.tmp 16),some (10,true)⟩,
 ⟨some 18,.fad 2 (.tmp 2),some (10,true)⟩,
 ⟨some 19,.ld false 1 (.tmp 18),some (10,true)⟩,
 ⟨some 20,.arith .add .i64 (.tmp 17) (.tmp 19),some (10,true)⟩,
 ⟨some 21,.mini (.tmp 15) (.tmp 20),some (10,true)⟩,
 ⟨some 22,.cmp .leq (.tmp 12) (.tmp 21),some (10,true)⟩,
 ⟨some 23,.pick (.tmp 10) (.tmp 22) (.cst (.d (.bool false))),none⟩,
 ⟨some 24,.mov (.tmp 23),none⟩,
 ⟨some 25,.fad 1 (.tmp 3),some (24,true)⟩,
 ⟨some 26,.ld false 1 (.tmp 25),some (24,true)⟩,
 ⟨some 27,.fad 0 (.tmp 2),some (24,true)⟩,
 ⟨some 28,.ld false 1 (.tmp 27),some (24,true)⟩,
 ⟨some 29,.fad 0 (.tmp 3),some (24,true)⟩,
 ⟨some 30,.ld false 1 (.tmp 29),some (24,true)⟩,
 ⟨some 31,.slc 4 (.tmp 28) none (some (.tmp 30)),some (24,true)⟩,
 ⟨some 32,.call 114 [(.tmp 26),(.tmp 31),(.cst (.d (.fn (.func 115) [])))],some (24,true)⟩,
 ⟨some 33,.pick (.tmp 24) (.tmp 32) (.cst (.d (.bool false))),none⟩,
 ⟨some 4,.mov (.tmp 33),none⟩] [(0,2),(1,2),(0,3),(1,3),(6,8),(7,8),(6,9),(7,9),(6,10),(7,10),(6,11),(7,11),(8,11),(9,11),(10,11),(6,12),(7,12),(8,12),(9,12),(10,12),(6,13),(7,13),(8,13),(9,13),(10,13),(11,13),(12,13),(6,14),(7,14),(8,14),(9,14),(10,14),(11,14),(12,14),(6,15),(7,15),(8,15),(9,15),(10,15),(6,16),(7,16),(20,22),(21,22),(20,23),(21,23),(20,24),(21,24),(22,24),(23,24),(20,25),(21,25),(22,25),(23,25),(20,26),(21,26)])
 .ret))⟩
structure Rd where
 lost:List Int
 dbl:List Int
 deaf:Bool
def Rd.d (x:Rd):Data:=.agg [.slice 1 (ints x.lost),.slice 1 (ints x.dbl),.bool x.deaf]
def rds (l:List Rd):List Data:=l.map Rd.d
def in7 (i:Int):Int:=within3 i 0 7
def chkIx (l:List Int):Int:=firstOf (l.map in7)
def Rd.chk (x:Rd):Int:=firstOf [chkIx x.lost,chkIx x.dbl]
def chkRds (l:List Rd):Int:=bif decide ((64:Int) < (l.length:Int)) then 5 else firstOf (l.map Rd.chk)
def Rd.small (x:Rd):Prop:=x.lost.length≤1048576∧x.dbl.length≤1048576
theorem c134 (i:Int):CallDet Tryz.prog 110 [.d (.int .i64 i)] [.int .i64 (in7 i)]:=by
 refine call_of_vc (x:=ir134) (by kernel_rfl) rfl ?_
 refine ca (c82 _ _ _) ?_
 exact rfl
theorem c137 (l : List Int) (hl : l.length ≤ 1048576) :
  CallDet Tryz.prog 113 [.d (.slice 1 (ints l)),.d (.fn (.func 110) [])] [.slice 1 (ints (l.map in7))]:=by
 refine call_of_vc (x:=ir137) (by kernel_rfl) rfl ?_
 have hlen:(ints l).length=l.length:=by simp [ints]
 refine loop_st (fun a:Nat × List Data=>⟨[(1,.d (.fn (.func 110) [])),(5,.sl 1 a.2.length),(8,.d (.slice 1 (ints l))),(9,.d (.int .i64 (ints l).length)),(10,.d (.int .i64 a.1))],[.none,.row 33 1 a.2 false]⟩)
  (fun a=>a.2=(l.take a.1).map fun x=>.int .i64 (in7 x)) (fun a=>l.length - a.1) (0,[]) rfl rfl ?_
 rintro ⟨k,acc⟩ hk
 refine sd ?_
 refine b_intro ?_ ?_
 ·intro h
  have h:(k:Int) < (ints l).length:=of_decide_eq_true h
  obtain ⟨x,hx⟩:∃ x,l[k]?=some x:=⟨_,List.getElem?_eq_getElem (by omega)⟩
  have hd:(ints l)[(k:Int).toNat]?=some (.int .i64 x):=by simp [ints,hx]
  have hacc:acc.length=k:=by have:=congrArg List.length hk; simp at this; omega
  refine ix_at hd (by omega) ?_
  refine ca (c134 x) ?_
  refine sd ?_
  refine sd ?_
  refine sd ?_
  refine And.intro ⟨rfl,rfl,rfl,?_,?_⟩ ?_
  ·show (acc.length+1) * 8≤2 ^ 47
   omega
  ·show acc.length+1≤2 ^ 47
   omega
  refine ar_add (by omega) ?_
  refine ⟨(k+1,acc++[.int .i64 (in7 x)]),⟨?_,by show l.length - (k+1) < l.length - k; omega⟩,rfl⟩
  show acc++[.int .i64 (in7 x)]=(l.take (k+1)).map fun x=>Data.int .i64 (in7 x)
  rw [take_map_succ _ hx]
  exact congrArg (·++[Data.int .i64 (in7 x)]) hk
 ·intro h
  have h:¬ (k:Int) < (ints l).length:=of_decide_eq_false h
  refine sd ?_
  have e:ints (l.map in7)=acc:=by
   have hk:acc=(l.take k).map fun x=>Data.int .i64 (in7 x):=hk
   rw [hk,List.take_of_length_le (by omega)]
   simp [ints]
  rw [e]
  exact rfl
theorem c136 (x:Rd) (hx:x.small):CallDet Tryz.prog 112 [.d x.d,.cp [.fn (.func 110) []] 0] [.int .i64 x.chk]:=by
 have h1:(x.lost.map in7).length < 9223372036854775807:=by rw [List.length_map]; have:=hx.1; omega
 have h2:(x.dbl.map in7).length < 9223372036854775807:=by rw [List.length_map]; have:=hx.2; omega
 refine call_of_vc (x:=ir136) (by kernel_rfl) rfl ?_
 refine ca (c137 x.lost hx.1) ?_
 refine ca (c81 _ h1) ?_
 refine ca (c137 x.dbl hx.2) ?_
 refine ca (c81 _ h2) ?_
 repeat refine sd ?_
 refine ca (c81 [chkIx x.lost,chkIx x.dbl] (by simp)) ?_
 exact rfl
theorem c135 (l : List Rd) (hl : l.length ≤ 1048576) (hs : ∀ x ∈ l, x.small) :
  CallDet Tryz.prog 111 [.d (.slice 3 (rds l)),.d (.fn (.func 112) [.agg [.fn (.func 110) []]])] [.slice 1 (ints (l.map Rd.chk))]:=by
 refine call_of_vc (x:=ir135) (by kernel_rfl) rfl ?_
 have hlen:(rds l).length=l.length:=by simp [rds]
 refine loop_st (fun a:Nat × List Data=>⟨[(1,.d (.fn (.func 112) [.agg [.fn (.func 110) []]])),(5,.sl 2 a.2.length),(8,.d (.slice 3 (rds l))),(9,.d (.int .i64 (rds l).length)),(10,.d (.int .i64 a.1))],[.none,.none,.row 33 1 a.2 false]⟩)
  (fun a=>a.2=(l.take a.1).map fun x=>.int .i64 (Rd.chk x)) (fun a=>l.length - a.1) (0,[]) rfl rfl ?_
 rintro ⟨k,acc⟩ hk
 refine sd ?_
 refine b_intro ?_ ?_
 ·intro h
  have h:(k:Int) < (rds l).length:=of_decide_eq_true h
  obtain ⟨x,hx⟩:∃ x,l[k]?=some x:=⟨_,List.getElem?_eq_getElem (by omega)⟩
  have hd:(rds l)[(k:Int).toNat]?=some (x.d):=by simp [rds,hx]
  have hacc:acc.length=k:=by have:=congrArg List.length hk; simp at this; omega
  refine ix_at hd (by omega) ?_
  refine ca (c136 x (hs x (List.mem_of_getElem? hx))) ?_
  refine sd ?_
  refine sd ?_
  refine sd ?_
  refine And.intro ⟨rfl,rfl,rfl,?_,?_⟩ ?_
  ·show (acc.length+1) * 8≤2 ^ 47
   omega
  ·show acc.length+1≤2 ^ 47
   omega
  refine ar_add (by omega) ?_
  refine ⟨(k+1,acc++[.int .i64 (Rd.chk x)]),⟨?_,by show l.length - (k+1) < l.length - k; omega⟩,rfl⟩
  show acc++[.int .i64 (Rd.chk x)]=(l.take (k+1)).map fun x=>Data.int .i64 (Rd.chk x)
  rw [take_map_succ _ hx]
  exact congrArg (·++[Data.int .i64 (Rd.chk x)]) hk
 ·intro h
  have h:¬ (k:Int) < (rds l).length:=of_decide_eq_false h
  refine sd ?_
  have e:ints (l.map Rd.chk)=acc:=by
   have hk:acc=(l.take k).map fun x=>Data.int .i64 (Rd.chk x):=hk
   rw [hk,List.take_of_length_le (by omega)]
   simp [ints]
  rw [e]
  exact rfl
theorem c101 (l:List Rd) (hl:l.length≤1048576) (hs:∀ x∈l,x.small):CallDet Tryz.prog 73 [.d (.slice 3 (rds l))] [.int .i64 (chkRds l)]:=by
 have hlen:(rds l).length=l.length:=by simp [rds]
 refine call_of_vc (x:=ir101) (by kernel_rfl) rfl ?_
 refine sd ?_
 refine b_intro ?_ ?_
 ·intro h
  have h:decide ((64:Int) < ((rds l).length:Int))=true:=h
  rw [hlen] at h
  rw [chkRds,h]
  exact rfl
 ·intro h
  have h:decide ((64:Int) < ((rds l).length:Int))=false:=h
  rw [hlen] at h
  refine ca (c135 l hl hs) ?_
  refine ca (c81 _ (by rw [List.length_map]; omega)) ?_
  rw [chkRds,h]
  exact rfl
theorem c139 (f g:Fr) (hf:f.b.length≤1048576):CallDet Tryz.prog 115 [.d f.d,.d g.d] [.bool (f.same g)]:=by
 refine call_of_vc (x:=ir139) (by kernel_rfl) rfl ?_
 refine sd ?_
 refine b_intro ?_ ?_
 ·intro h1
  have h1:(f.m==g.m)=true:=h1
  refine sd ?_
  refine b_intro ?_ ?_
  ·intro h2
   have h2:(f.p==g.p)=true:=h2
   refine sd ?_
   refine b_intro ?_ ?_
   ·intro h3
    have h3:(f.n==g.n)=true:=h3
    refine ca (c86 f.b g.b hf) ?_
    repeat refine sd ?_
    rw [Fr.same,h1,h2,h3]
    exact rfl
   ·intro h3
    have h3:(f.n==g.n)=false:=h3
    repeat refine sd ?_
    rw [Fr.same,h1,h2,h3]
    exact rfl
  ·intro h2
   have h2:(f.p==g.p)=false:=h2
   repeat refine sd ?_
   rw [Fr.same,h1,h2]
   exact rfl
 ·intro h1
  have h1:(f.m==g.m)=false:=h1
  repeat refine sd ?_
  rw [Fr.same,h1]
  exact rfl
theorem c138 (a b:List Fr) (ha:a.length≤1048576) (hb:∀ f∈a,f.b.length≤1048576):CallDet Tryz.prog 114 [.d (.slice 4 (frs a)),.d (.slice 4 (frs b)),.d (.fn (.func 115) [])] [.bool (sameFrames a b)]:=by
 refine call_of_vc (x:=ir138) (by kernel_rfl) rfl ?_
 have hla:=frs_len a
 have hlb:=frs_len b
 refine sd ?_
 refine b_intro ?_ ?_
 ·intro h
  have h:(((frs a).length:Int) != ((frs b).length:Int))=true:=h
  rw [sameFrames_len (a:=a) (b:=b) (by simp at h; omega)]
  exact rfl
 ·intro h
  have h:(((frs a).length:Int) != ((frs b).length:Int))=false:=h
  have hl:a.length=b.length:=by simp at h; omega
  refine loop_st (fun k:Nat=>⟨[(1,.d (.slice 4 (frs b))),(2,.d (.fn (.func 115) [])),(15,.d (.slice 4 (frs a))),(16,.d (.int .i64 (frs a).length)),(17,.d (.int .i64 k))],[.none,.none]⟩)
   (fun k=>sameFrames a b=sameFrames (a.drop k) (b.drop k)) (fun k=>a.length - k) 0 rfl rfl ?_
  intro k hk
  refine sd ?_
  refine b_intro ?_ ?_
  ·intro h
   have h:(k:Int) < (frs a).length:=of_decide_eq_true h
   obtain ⟨x,hx⟩:∃ x,a[k]?=some x:=⟨_,List.getElem?_eq_getElem (by omega)⟩
   obtain ⟨y,hy⟩:∃ y,b[k]?=some y:=⟨_,List.getElem?_eq_getElem (by omega)⟩
   refine ix_at (frs_get hx) (by omega) ?_
   refine ix_at (frs_get hy) (by omega) ?_
   refine ca (c139 x y (hb x (List.mem_of_getElem? hx))) ?_
   refine b_intro ?_ ?_
   ·intro h2
    have h2:(!x.same y)=true:=h2
    have e:sameFrames a b=false:=by
     rw [hk,drop_at hx,drop_at hy]
     simp only [sameFrames,show x.same y=false by simpa using h2,Bool.false_and]
    rw [e]
    exact rfl
   ·intro h2
    have h2:(!x.same y)=false:=h2
    refine ar_add (by omega) ?_
    refine ⟨k+1,⟨?_,by omega⟩,rfl⟩
    have e:sameFrames a b=sameFrames (a.drop (k+1)) (b.drop (k+1)):=by
     rw [hk,drop_at hx,drop_at hy]
     simp only [sameFrames,show x.same y=true by simpa using h2,Bool.true_and]
    exact e
  ·intro h
   have h:¬ ((k:Int) < (frs a).length):=of_decide_eq_false h
   have e:sameFrames a b=true:=by
    rw [hk,List.drop_eq_nil_of_le (by omega),List.drop_eq_nil_of_le (by omega)]
    rfl
   rw [e]
   exact rfl
def ixI (x:Int):List Int→Int→Int
 | [],_=>-1
 | y::r,k=>bif x==y then k else ixI x r (k+1)
theorem ixI_ge (x:Int):∀ (l:List Int) (k:Int),0≤k→decide (0≤ixI x l k)=l.contains x
 | [],k,_=>rfl
 | y::r,k,hk=>by
  simp only [ixI,List.contains_cons]
  rcases Bool.eq_false_or_eq_true (x==y) with h | h
  ·simp [h,hk]
  ·simp only [h,cond_false,Bool.false_or]; exact ixI_ge x r (k+1) (by omega)
theorem c140 (l:List Int) (x:Int) (hl:l.length≤1048576):CallDet Tryz.prog 119 [.d (.slice 1 (ints l)),.d (.int .i64 x)] [.int .i64 (ixI x l 0)]:=by
 have hlen:(ints l).length=l.length:=by simp [ints]
 refine call_of_vc (x:=ir140) (by kernel_rfl) rfl ?_
 refine loop_st (fun k:Nat=>⟨[(0,.d (.slice 1 (ints l))),(1,.d (.int .i64 x)),(7,.d (.int .i64 (ints l).length)),(8,.d (.int .i64 k))],[]⟩)
  (fun k=>ixI x l 0=ixI x (l.drop k) k) (fun k=>l.length - k) 0 rfl rfl ?_
 intro k hk
 refine sd ?_
 refine b_intro ?_ ?_
 ·intro h
  have h:(k:Int) < (ints l).length:=of_decide_eq_true h
  refine Exists.elim (⟨_,List.getElem?_eq_getElem (by omega)⟩:∃ y,l[k]?=some y) fun y hy=>?_
  refine ix_at (ints_get hy) (by omega) ?_
  refine sd ?_
  refine b_intro ?_ ?_
  ·intro h2
   have h2:(x==y)=true:=h2
   have e:ixI x l 0=k:=by rw [hk,drop_at hy,ixI,h2]; rfl
   rw [e]
   exact rfl
  ·intro h2
   have h2:(x==y)=false:=h2
   refine ar_add (by omega) ?_
   refine ⟨k+1,⟨?_,by omega⟩,rfl⟩
   rw [hk,drop_at hy,ixI,h2]
   rfl
 ·intro h
  have h:¬ ((k:Int) < (ints l).length):=of_decide_eq_false h
  have e:ixI x l 0=-1:=by rw [hk,List.drop_eq_nil_of_le (by omega)]; rfl
  rw [e]
  exact rfl
theorem c104 (l:List Int) (x:Int) (hl:l.length≤1048576):CallDet Tryz.prog 81 [.d (.slice 1 (ints l)),.d (.int .i64 x)] [.bool (l.contains x)]:=by
 refine call_of_vc (x:=ir104) (by kernel_rfl) rfl ?_
 refine ca (c140 l x hl) ?_
 refine sd ?_
 rw [← ixI_ge x l 0 (by omega)]
 exact rfl
theorem c106 (l:List Int) (x:Int) (hl:l.length≤1048576):CallDet Tryz.prog 14 [.d (.slice 1 (ints l)),.d (.int .i64 x)] [.bool (l.contains x)]:=by
 have hlen:(ints l).length=l.length:=by simp [ints]
 refine call_of_vc (x:=ir106) (by kernel_rfl) rfl ?_
 refine loop_st (fun k:Nat=>⟨[(0,.d (.slice 1 (ints l))),(1,.d (.int .i64 x)),(5,.d (.int .i64 k))],[]⟩)
  (fun k=>l.contains x=(l.drop k).contains x) (fun k=>l.length - k) 0 rfl rfl ?_
 intro k hk
 refine sd ?_
 refine b_intro ?_ ?_
 ·intro h
  have h:(k:Int) < (ints l).length:=of_decide_eq_true h
  refine Exists.elim (⟨_,List.getElem?_eq_getElem (by omega)⟩:∃ y,l[k]?=some y) fun y hy=>?_
  refine ix_at (ints_get hy) (by omega) ?_
  refine sd ?_
  refine b_intro ?_ ?_
  ·intro h2
   have h2:(y==x)=true:=h2
   have e:l.contains x=true:=by
    rw [hk,drop_at hy,List.contains_cons,show (x==y)=true by rw [eq_of_beq h2]; simp]; rfl
   rw [e]
   exact rfl
  ·intro h2
   have h2:(y==x)=false:=h2
   refine ar_add (by omega) ?_
   refine ⟨k+1,⟨?_,by omega⟩,rfl⟩
   have e:l.contains x=(l.drop (k+1)).contains x:=by
    rw [hk,drop_at hy,List.contains_cons,show (x==y)=false by simpa using fun e=>ne_of_beq_false h2 e.symm]; rfl
   exact e
 ·intro h
  have h:¬ ((k:Int) < (ints l).length):=of_decide_eq_false h
  have e:l.contains x=false:=by rw [hk,List.drop_eq_nil_of_le (by omega)]; rfl
  rw [e]
  exact rfl
def fitsB (s:Sn) (r:Rc):Bool:=decide (s.a≤r.t)&&(decide (r.t≤min ((frs s.q).length:Int) (s.a+s.w))&&sameFrames r.l (s.q.take r.t.toNat))
theorem c102 (s:Sn) (r:Rc) (hs:chkSn s=0) (hr:r.l.length≤1048576) (hrb:∀ f∈r.l,f.b.length≤1048576):CallDet Tryz.prog 74 [.d s.d,.d r.d] [.bool (fitsB s r)]:=by
 obtain ⟨_,h1,h2,h3⟩:=chkSn_zero hs
 have hlen:=frs_len s.q
 refine call_of_vc (x:=ir102) (by kernel_rfl) rfl ?_
 refine sd ?_
 refine b_intro ?_ ?_
 ·intro k1
  have k1:decide (s.a≤r.t)=true:=k1
  refine ar_add (by omega) ?_
  repeat refine sd ?_
  refine b_intro ?_ ?_
  ·intro k2
   have k2:decide (r.t≤min ((frs s.q).length:Int) (s.a+s.w))=true:=k2
   have k1':=of_decide_eq_true k1
   have k2':=of_decide_eq_true k2
   have hA:0≤(0:Int)∧(0:Int)≤r.t∧r.t≤(frs s.q).length:=by omega
   refine And.intro ⟨rfl,hA⟩ ?_
   have e:((frs s.q).take r.t.toNat).drop (0:Int).toNat=frs (s.q.take r.t.toNat):=by simp [frs,List.map_take]
   refine Exists.intro [.bool (sameFrames r.l (s.q.take r.t.toNat))] (And.intro ?_ ?_)
   ·show CallDet Tryz.prog 114 [.d (.slice 4 (frs r.l)),.d (.slice 4 (((frs s.q).take r.t.toNat).drop (0:Int).toNat)),.d (.fn (.func 115) [])] _
    rw [e]
    exact c138 _ _ hr hrb
   repeat refine sd ?_
   rw [fitsB,k1,k2]
   exact rfl
  ·intro k2
   have k2:decide (r.t≤min ((frs s.q).length:Int) (s.a+s.w))=false:=k2
   repeat refine sd ?_
   rw [fitsB,k1,k2]
   exact rfl
 ·intro k1
  have k1:decide (s.a≤r.t)=false:=k1
  repeat refine sd ?_
  rw [fitsB,k1]
  exact rfl
end Vc.L
set_option maxRecDepth 10000
namespace Vc.L
open Go Go.Proofs
theorem parts_fact (len S:Nat) (hS:1≤S):∃ P:Nat,partsI len S=(P:Int)∧1≤P∧len≤P * S∧(0 < len→(P - 1) * S < len)∧(len=0→P=1):=by
 have e:((len:Int)+(S:Int) - 1) / (S:Int)=(((len+S - 1) / S:Nat):Int):=by
  rw [show ((len:Int)+(S:Int) - 1)=((len+S - 1:Nat):Int) by omega]; rfl
 have h1:=Nat.div_add_mod (len+S - 1) S
 have h2:=Nat.mod_lt (len+S - 1) (show 0 < S by omega)
 refine ⟨max 1 ((len+S - 1) / S),by unfold partsI; rw [e]; omega,by omega,?_,?_,?_⟩
 ·generalize (len+S - 1) / S=q at *
  have h3:q * S≤max 1 q * S:=Nat.mul_le_mul_right _ (by omega)
  rw [Nat.mul_comm] at h1
  omega
 ·intro h
  generalize (len+S - 1) / S=q at *
  by_cases hq:q=0
  ·subst hq; simp; omega
  ·rw [show max 1 q=q by omega]
   obtain ⟨r,rfl⟩:∃ r,q=r+1:=⟨q - 1,by omega⟩
   rw [Nat.mul_add,Nat.mul_comm S r] at h1
   simp only [Nat.add_sub_cancel]
   omega
 ·rintro rfl
  rw [Nat.div_eq_of_lt (by omega)]
  rfl
theorem piece_nat (b:List UInt8) (S k:Nat):piece b S k=(b.take (min b.length ((k+1) * S))).drop (k * S):=by
 unfold piece
 rw [show ((k:Int) * (S:Int)).toNat=k * S by rw [← Int.natCast_mul]; rfl,
  show (min (b.length:Int) (((k:Int)+1) * (S:Int))).toNat=min b.length ((k+1) * S) by
   rw [show ((k:Int)+1) * (S:Int)=(((k+1) * S:Nat):Int) by rw [Int.natCast_mul]; rfl]; omega]
theorem piece_len (b:List UInt8) (S k:Nat):(piece b S k).length=min b.length ((k+1) * S) - k * S:=by
 rw [piece_nat,List.length_drop,List.length_take]; omega
theorem piece_le (b:List UInt8) (S k:Nat):(piece b S k).length≤S:=by
 rw [piece_len,Nat.add_mul]; omega
theorem take_piece (b:List UInt8) (S k:Nat):b.take (k * S)++piece b S k=b.take ((k+1) * S):=by
 rw [piece_nat]
 have h:k * S≤(k+1) * S:=Nat.mul_le_mul_right _ (by omega)
 by_cases hb:k * S≤b.length
 ·have e : b.take (min b.length ((k + 1) * S)) = b.take ((k + 1) * S) := by
   by_cases h2:(k+1) * S≤b.length
   ·rw [Nat.min_eq_right h2]
   ·rw [Nat.min_eq_left (by omega),List.take_length,List.take_of_length_le (by omega)]
  have e2:b.take (k * S)=(b.take ((k+1) * S)).take (k * S):=by rw [List.take_take,Nat.min_eq_left h]
  rw [e,e2,List.take_append_drop]
 ·rw [List.take_of_length_le (by omega),List.drop_eq_nil_of_le (by rw [List.length_take]; omega),List.append_nil,List.take_of_length_le (by omega)]
def IsCut (n:Int) (b:List UInt8) (S:Nat) (f:Fr):Prop:=∃ k:Nat,f=cutFr n b S k
theorem cut_clean {n:Int} {b:List UInt8} {S:Nat} {l:List Fr} (h:∀ f∈l,IsCut n b S f):clean l:=by
 intro x hx y hy
 obtain ⟨k,rfl⟩:=h x hx
 obtain ⟨j,rfl⟩:=h y hy
 refine clash_iff.2 ⟨rfl,rfl,fun e=>?_⟩
 have e:(k:Int)=(j:Int):=e
 rw [show k=j by omega]
theorem cut_find {n:Int} {b:List UInt8} {S q:Nat} {l:List Fr} (h:∀ f∈l,IsCut n b S f) (hq:∃ f∈l,f.p=q):findP l q=some (cutFr n b S q):=by
 cases hf:findP l q with
 | none=>obtain ⟨f,h1,h2⟩:=hq; exact absurd h2 (findP_none hf f h1)
 | some g =>
  obtain ⟨h1,h2⟩:=findP_mem hf
  obtain ⟨k,rfl⟩:=h g h1
  have h2:(k:Int)=(q:Int):=h2
  rw [show k=q by omega]
theorem cut_join {n:Int} {b:List UInt8} {S:Nat} {l:List Fr} (h:∀ f∈l,IsCut n b S f):∀ {P:Nat},(∀ q:Nat,q < P→∃ f∈l,f.p=q)→joinUpto l P=some (b.take (P * S))
 | 0,_=>by simp [joinUpto]
 | P+1,hP=>by
  rw [joinUpto,cut_join h fun q hq=>hP q (by omega),cut_find h (hP P (by omega))]
  show some (b.take (P * S)++piece b S P)=_
  rw [take_piece]
theorem cut_check {n:Int} {b:List UInt8} {S k P:Nat} (hn:0≤n∧n≤255) (hS:S≤12) (hP:partsI b.length S=(P:Int)) (h64:P≤64) (hk:k < P):(cutFr n b S k).check=0:=by
 have h1:=piece_le b S k
 show checkFrame n k (partsI b.length S) (piece b S k).length=0
 have e1:within3 n 0 255=0:=by unfold within3; rw [decide_eq_false (by omega),decide_eq_false (by omega)]; rfl
 have e2:within3 (P:Int) 1 64=0:=by unfold within3; rw [decide_eq_false (by omega),decide_eq_false (by omega)]; rfl
 have e3:within3 (k:Int) 0 ((P:Int) - 1)=0:=by unfold within3; rw [decide_eq_false (by omega),decide_eq_false (by omega)]; rfl
 have e4:decide ((12:Int) < ((piece b S k).length:Int))=false:=decide_eq_false (by omega)
 rw [hP]
 simp [checkFrame,e1,e2,e3,e4]
theorem first_zeros:∀ {l:List Int},(∀ e∈l,e=0)→firstOf l=0
 | [],_=>rfl
 | x::r,h=>by
  have h1:=h x List.mem_cons_self
  subst h1
  show firstOf r=0
  exact first_zeros fun e he=>h e (List.mem_cons_of_mem _ he)
theorem checks_ok {l:List Fr} (hl:l.length≤64) (h:∀ f∈l,f.check=0):checkFrames l=0:=by
 unfold checkFrames
 rw [decide_eq_false (by omega)]
 refine first_zeros fun e he=>?_
 obtain ⟨f,hf,rfl⟩:=List.mem_map.1 he
 exact h f hf
theorem joinL_ok {l:List Fr} (hl:l.length≤64) (h:∀ f∈l,f.check=0):joinL l=joinR l:=by
 unfold joinL
 rw [checks_ok hl h]; rfl
theorem join_whole {n : Int} {b : List UInt8} {S P : Nat} {l : List Fr} (hn : 0 ≤ n ∧ n ≤ 255) (hS : S ≤ 12) (hP : partsI b.length S = (P : Int)) (h1 : 1 ≤ P) (h64 : P ≤ 64) (hl : l.length ≤ 64)
  (hc:∀ f∈l,∃ k,k < P∧f=cutFr n b S k) (hq:∀ q:Nat,q < P→∃ f∈l,f.p=q) (hb:b.length≤P * S):joinL l=(b,0):=by
 have hi:∀ f∈l,IsCut n b S f:=fun f hf=>by obtain ⟨k,_,e⟩:=hc f hf; exact ⟨k,e⟩
 rw [joinL_ok hl fun f hf=>by obtain ⟨k,hk,rfl⟩:=hc f hf; exact cut_check hn hS hP h64 hk]
 obtain ⟨f,hf,_⟩:=hq 0 (by omega)
 cases l with
 | nil=>exact absurd hf List.not_mem_nil
 | cons g r =>
  obtain ⟨k,hk,e⟩:=hc g List.mem_cons_self
  have e2:g.n.toNat=P:=by rw [e]; show (partsI b.length S).toNat=P; omega
  rw [joinR_some (f:=g) rfl (cut_clean hi) (by rw [e2]; exact cut_join hi hq),List.take_of_length_le hb]
end Vc.L
set_option maxRecDepth 10000
namespace Vc.L
open Go Go.Proofs
def stepJ (x:Rd) (a t j:Nat):Nat:=bif x.lost.contains (j:Int) then t else bif a+j==t then t+1 else t
def rT (x:Rd) (a t:Nat):Nat→Nat
 | 0=>t
 | j+1=>stepJ x a (rT x a t j) j
def lim (s:Sn) (a:Nat):Nat:=min s.q.length (a+s.w.toNat)
def rnd (s:Sn) (p:Nat × Nat) (x:Rd):Nat × Nat:=(bif x.deaf then p.1 else rT x p.1 p.2 (lim s p.1 - p.1),rT x p.1 p.2 (lim s p.1 - p.1))
def inW (s:Sn) (p:Nat × Nat):Prop:=p.1≤p.2∧p.2≤lim s p.1
def sAt (s:Sn) (a:Nat):Sn:=⟨s.q,a,s.w⟩
def rAt (s:Sn) (t:Nat):Rc:=⟨t,s.q.take t⟩
theorem rT_in {s:Sn} {x:Rd} {a t:Nat} (h:inW s (a,t)):∀ {j:Nat},j≤lim s a - a→t≤rT x a t j∧inW s (a,rT x a t j)
 | 0,_=>⟨Nat.le_refl _,h⟩
 | j+1,hj=>by
  obtain ⟨h0,h1,h2⟩:=rT_in (x:=x) h (j:=j) (by omega)
  have h1:a≤rT x a t j:=h1
  have h2:rT x a t j≤lim s a:=h2
  show t≤stepJ x a (rT x a t j) j∧a≤stepJ x a (rT x a t j) j∧stepJ x a (rT x a t j) j≤lim s a
  unfold stepJ
  cases x.lost.contains (j:Int)
  ·rcases Bool.eq_false_or_eq_true (a+j==rT x a t j) with e | e
   ·rw [e]
    have:=eq_of_beq e
    show t≤rT x a t j+1∧a≤rT x a t j+1∧rT x a t j+1≤lim s a
    omega
   ·rw [e]; exact ⟨h0,h1,h2⟩
  ·exact ⟨h0,h1,h2⟩
theorem rnd_in {s:Sn} {x:Rd} {p:Nat × Nat} (h:inW s p):inW s (rnd s p x)∧p.1≤(rnd s p x).1∧p.2≤(rnd s p x).2:=by
 obtain ⟨a,t⟩:=p
 obtain ⟨h0,h1,h2⟩:=rT_in (x:=x) h (j:=lim s a - a) (Nat.le_refl _)
 have h1:a≤rT x a t (lim s a - a):=h1
 have h2:rT x a t (lim s a - a)≤lim s a:=h2
 have hm:lim s a≤lim s (rT x a t (lim s a - a)):=by unfold lim at *; omega
 unfold rnd
 cases x.deaf
 ·exact ⟨⟨Nat.le_refl _,Nat.le_trans h2 hm⟩,h1,h0⟩
 ·exact ⟨⟨h1,h2⟩,Nat.le_refl _,h0⟩
theorem fold_in {s:Sn}:∀ (l:List Rd) {p:Nat × Nat},inW s p→inW s (l.foldl (rnd s) p)
 | [],_,h=>h
 | x::r,p,h=>fold_in r (rnd_in (x:=x) h).1
theorem fold_take {s:Sn} {l:List Rd} {k:Nat} {x:Rd} (p:Nat × Nat) (h:l[k]?=some x):(l.take (k+1)).foldl (rnd s) p=rnd s ((l.take k).foldl (rnd s) p) x:=by
 rw [take_one h,List.foldl_append]; rfl
theorem chkSn_at {s:Sn} (hs:chkSn s=0) {a:Nat} (ha:a≤s.q.length):chkSn (sAt s a)=0:=by
 have h1:=firstOf_zero hs (checkFrames s.q) (by simp)
 have h2:=firstOf_zero hs (within3 s.w 1 8) (by simp)
 refine first_zeros fun e he=>?_
 simp only [List.mem_cons,List.not_mem_nil,or_false] at he
 rcases he with rfl | rfl | rfl
 ·exact h1
 ·show within3 (a:Int) 0 (frs s.q).length=0
  rw [frs_len]
  unfold within3; rw [decide_eq_false (by omega),decide_eq_false (by omega)]; rfl
 ·exact h2
theorem checks_take {l:List Fr} (h:checkFrames l=0) (t:Nat):checkFrames (l.take t)=0:=by
 obtain ⟨h1,h2⟩:=checks_zero h
 exact checks_ok (by rw [List.length_take]; omega) fun f hf=>h2 f (List.mem_of_mem_take hf)
theorem chkRc_at {s:Sn} (hs:chkSn s=0) {t:Nat} (ht:t≤s.q.length):chkRc (rAt s t)=0:=by
 have h1:=firstOf_zero hs (checkFrames s.q) (by simp)
 refine first_zeros fun e he=>?_
 simp only [List.mem_cons,List.not_mem_nil,or_false] at he
 rcases he with rfl | rfl
 ·exact checks_take h1 t
 ·show (bif ((t:Int) != ((frs (s.q.take t)).length:Int)) then (2:Int) else 0)=0
  rw [frs_len,List.length_take,Nat.min_eq_left ht]
  simp
theorem lim_at {s:Sn} (hs:chkSn s=0) {a:Nat} (ha:a≤s.q.length):(sentF (sAt s a)).length=lim s a - a∧lim s a≤a+8∧lim s a≤s.q.length∧s.q.length≤64:=by
 have h:=sentF_len (chkSn_at hs ha)
 obtain ⟨h1,h2,h3,h4⟩:=chkSn_zero (chkSn_at hs ha)
 rw [frs_len] at h
 have h:((sentF (sAt s a)).length:Int)=min (s.q.length:Int) ((a:Int)+s.w) - a:=h
 have h3:1≤s.w∧s.w≤8:=h3
 have h4:s.q.length≤64:=h4
 unfold lim
 omega
theorem sent_at {s:Sn} (hs:chkSn s=0) {a j:Nat} (ha:a≤s.q.length) (hj:j < lim s a - a):∃ f,(sentF (sAt s a))[j]?=some f∧s.q[a+j]?=some f:=by
 obtain ⟨h1,h2,h3,h4⟩:=lim_at hs ha
 refine ⟨_,List.getElem?_eq_getElem (by omega),?_⟩
 rw [← List.getElem?_eq_getElem,sentF_get (by omega)]
 rfl
theorem num_at {s:Sn} (hs:chkSn s=0) {a t j:Nat} (h:inW s (a,t)) (hj:j < lim s a - a):(((a:Int)+(j:Int)) % 16==((t:Int)).tmod 16)=(a+j==t):=by
 have h1:a≤t:=h.1
 have h2:t≤lim s a:=h.2
 have h3:lim s a≤s.q.length:=Nat.min_le_left ..
 obtain ⟨_,h4,_,_⟩:=lim_at hs (a:=a) (by omega)
 rw [Int.tmod_eq_emod_of_nonneg (by omega)]
 rcases Bool.eq_false_or_eq_true (a+j==t) with e | e
 ·rw [e]
  have:=eq_of_beq e
  rw [← this]
  simp
 ·rw [e]
  have:=ne_of_beq_false e
  rw [beq_eq_false_iff_ne]
  omega
theorem ack_at {s:Sn} (hs:chkSn s=0) {a t:Nat} (h:inW s (a,t)):acked (sAt s a) ((t:Int) % 16)=t:=by
 have h1:a≤t:=h.1
 have h2:t≤lim s a:=h.2
 have h3:lim s a≤s.q.length:=Nat.min_le_left ..
 obtain ⟨h5,h4,_,_⟩:=lim_at hs (a:=a) (by omega)
 have hw:(lim s a:Int)≤(a:Int)+s.w:=by
  obtain ⟨_,_,h6,_⟩:=chkSn_zero hs
  unfold lim; omega
 have e:ackN (sAt s a) ((t:Int) % 16)=(t:Int) - a:=by
  show (((t:Int) % 16) - (a:Int) % 16+16) % 16=_
  omega
 unfold acked
 rw [e]
 have hd:decide ((t:Int) - a≤min (sAt s a).w (((frs (sAt s a).q).length:Int) - (sAt s a).a))=true:=by
  refine decide_eq_true ?_
  show (t:Int) - a≤min s.w (((frs s.q).length:Int) - a)
  rw [frs_len]; omega
 rw [hd]
 show (a:Int)+((t:Int) - a)=t
 omega
theorem fr_eq {f g:Fr} (h:f.same g=true):f=g:=by
 obtain ⟨m,p,n,b⟩:=f
 obtain ⟨m',p',n',b'⟩:=g
 simp only [Fr.same,Bool.and_eq_true,beq_iff_eq] at h
 obtain ⟨rfl,rfl,rfl,rfl⟩:=h
 rfl
theorem frs_eq:∀ {a b:List Fr},sameFrames a b=true→a=b
 | [],[],_=>rfl
 | [],_::_,h=>by cases h
 | _::_,[],h=>by cases h
 | f::a,g::b,h=>by
  simp only [sameFrames,Bool.and_eq_true] at h
  rw [fr_eq h.1,frs_eq h.2]
theorem fits_at {s:Sn} {r:Rc} (hs:chkSn s=0) (h:fitsB s r=true):s=sAt s s.a.toNat∧r=rAt s r.t.toNat∧inW s (s.a.toNat,r.t.toNat):=by
 simp only [fitsB,Bool.and_eq_true,decide_eq_true_eq] at h
 obtain ⟨h1,h2,h3⟩:=h
 obtain ⟨_,h4,h5,h6⟩:=chkSn_zero hs
 rw [frs_len] at h2
 have h3:=frs_eq h3
 refine ⟨?_,?_,?_,?_⟩
 ·obtain ⟨q,a,w⟩:=s
  show (⟨q,a,w⟩:Sn)=⟨q,(a.toNat:Int),w⟩
  have h4:0≤a:=by have:0≤a∧_:=h4; exact this.1
  rw [show (a.toNat:Int)=a by omega]
 ·obtain ⟨t,l⟩:=r
  have h3:l=s.q.take t.toNat:=h3
  have h1:s.a≤t:=h1
  show (⟨t,l⟩:Rc)=⟨(t.toNat:Int),s.q.take t.toNat⟩
  rw [← h3,show (t.toNat:Int)=t by omega]
 ·show s.a.toNat≤r.t.toNat; omega
 ·show r.t.toNat≤min s.q.length (s.a.toNat+s.w.toNat); omega
end Vc.L
set_option maxRecDepth 10000
namespace Vc.L
open Go Go.Proofs
def ir103:AFun:=⟨11,1,[],
 (.post [] [0] (.seq
 (.reg [0] [⟨some 2,.cbx 0 5 (.tmp 0),none⟩])
 (.seq
 (.reg [] [⟨some 3,.ld true 2 (.tmp 1),none⟩,
 ⟨some 4,.fad 4 (.tmp 2),none⟩,
 ⟨some 5,.ld false 1 (.tmp 4),none⟩,
 ⟨some 6,.call 77 [(.tmp 3),(.tmp 5)],none⟩])
 (.cond (.tmp 6)
 (.reg [] [⟨some 7,.ld true 2 (.tmp 1),none⟩,
 ⟨some 8,.fad 0 (.tmp 2),none⟩,
 ⟨some 9,.ld true 4 (.tmp 8),none⟩,
 ⟨some 10,.call 78 [(.tmp 7),(.tmp 9)],none⟩,
 ⟨none,.st 2 (.tmp 1) (.tmp 10),none⟩])
 .skip))))⟩
def ir49:AFun:=⟨93,10,[.cell 6 3 true,.cell 7 2 true,.tmp 8],
 (.seq
 (.reg [0,1,2,3] [⟨some 3,.cbx 0 3 (.tmp 0),none⟩,
 ⟨some 4,.cbx 1 2 (.tmp 1),none⟩,
 ⟨some 6,.alloc 2 [(.nils 4),(.d (.int .i64 0)),(.d (.int .i64 0))],none⟩,
 ⟨some 7,.alloc 3 [(.d (.int .i64 0)),(.nils 4)],none⟩,
 ⟨some 8,.mov (.cst (.d (.int .i64 0))),none⟩])
 (.seq
 (.seq
 (.regd [4] [⟨some 17,.ld true 3 (.tmp 3),none⟩,
 ⟨some 18,.call 71 [(.tmp 17)],none⟩,
 ⟨some 19,.ld true 2 (.tmp 4),none⟩,
 ⟨some 20,.call 72 [(.tmp 19)],none⟩,
 ⟨some 21,.mov (.tmp 2),none⟩,
 ⟨some 22,.call 73 [(.tmp 21)],none⟩,
 ⟨some 23,.bsl 4 33 1 3 [(.int .i64 0),(.int .i64 0),(.int .i64 0)] [(0,(.tmp 18)),(1,(.tmp 20)),(2,(.tmp 22))],none⟩,
 ⟨some 24,.call 46 [(.tmp 23)],none⟩,
 ⟨some 9,.mov (.tmp 24),none⟩] [(0,2),(1,2),(0,4),(1,4),(2,4),(3,4)])
 (.seq
 (.reg [] [⟨some 25,.mov (.tmp 9),none⟩,
 ⟨some 26,.cmp .neq (.tmp 25) (.cst (.d (.int .i64 0))),none⟩])
 (.cond (.tmp 26)
 (.seq
 (.reg [] [⟨some 27,.build [(.nils 4),(.d (.int .i64 0)),(.d (.int .i64 0))] [],none⟩,
 ⟨some 28,.build [(.d (.int .i64 0)),(.nils 4)] [],none⟩,
 ⟨some 29,.mov (.tmp 9),none⟩,
 ⟨none,.st 3 (.tmp 6) (.tmp 27),none⟩,
 ⟨none,.st 2 (.tmp 7) (.tmp 28),none⟩,
 ⟨some 8,.mov (.tmp 29),none⟩])
 .ret)
 .skip)))
 (.seq
 (.seq
 (.reg [] [⟨some 30,.ld true 3 (.tmp 3),none⟩,
 ⟨some 31,.ld true 2 (.tmp 4),none⟩,
 ⟨some 32,.call 74 [(.tmp 30),(.tmp 31)],none⟩,
 ⟨some 33,.not (.tmp 32),none⟩])
 (.cond (.tmp 33)
 (.seq
 (.reg [] [⟨some 34,.build [(.nils 4),(.d (.int .i64 0)),(.d (.int .i64 0))] [],none⟩,
 ⟨some 35,.build [(.d (.int .i64 0)),(.nils 4)] [],none⟩,
 ⟨none,.st 3 (.tmp 6) (.tmp 34),none⟩,
 ⟨none,.st 2 (.tmp 7) (.tmp 35),none⟩,
 ⟨some 8,.mov (.cst (.d (.int .i64 24))),none⟩])
 .ret)
 .skip))
 (.seq
 (.regd [5] [⟨some 36,.fad 0 (.tmp 3),none⟩,
 ⟨some 37,.ld false 1 (.tmp 36),none⟩,
 ⟨some 38,.call 75 [(.tmp 37)],none⟩,
 ⟨some 39,.fad 1 (.tmp 3),none⟩,
 ⟨some 40,.ld false 1 (.tmp 39),none⟩,
 ⟨some 41,.fad 2 (.tmp 3),none⟩,
 ⟨some 42,.ld false 1 (.tmp 41),none⟩,
 ⟨some 43,.build [(.nils 4),(.d (.int .i64 0)),(.d (.int .i64 0))] [(0,1,(.tmp 38)),(1,1,(.tmp 40)),(2,1,(.tmp 42))],none⟩,
 ⟨some 10,.alloc 5 [(.nils 4),(.d (.int .i64 0)),(.d (.int .i64 0))],none⟩,
 ⟨none,.st 3 (.tmp 10) (.tmp 43),none⟩] [(0,3),(1,3),(2,3),(0,4),(1,4),(2,4),(0,5),(1,5),(2,5),(3,5),(4,5),(0,6),(1,6),(2,6),(3,6),(4,6),(0,8),(1,8),(2,8),(3,8),(4,8),(5,8),(6,8),(7,8)])
 (.seq
 (.regd [6] [⟨some 44,.fad 0 (.tmp 4),none⟩,
 ⟨some 45,.ld false 1 (.tmp 44),none⟩,
 ⟨some 46,.fad 1 (.tmp 4),none⟩,
 ⟨some 47,.ld false 1 (.tmp 46),none⟩,
 ⟨some 48,.call 75 [(.tmp 47)],none⟩,
 ⟨some 49,.build [(.d (.int .i64 0)),(.nils 4)] [(0,1,(.tmp 45)),(1,1,(.tmp 48))],none⟩,
 ⟨some 11,.alloc 6 [(.d (.int .i64 0)),(.nils 4)],none⟩,
 ⟨none,.st 2 (.tmp 11) (.tmp 49),none⟩] [(0,2),(1,2),(0,3),(1,3),(0,4),(1,4),(0,6),(1,6),(2,6),(3,6),(4,6),(5,6)])
 (.seq
 (.seq
 (.reg [] [⟨some 50,.mov (.tmp 2),none⟩,
 ⟨some 51,.len (.tmp 50),none⟩,
 ⟨some 52,.mov (.cst (.d (.int .i64 0))),none⟩])
 (.post [6,7,10,11] [0,1,2,3,4,5,6,7,8]
 (.block 0
 (.keep [6,7,10,11,50,51,52] [0,1,2,3,4,5,6]
 (.loop
 (.post [6,7,10,11,50,51,52] [7,8]
 (.seq
 (.reg [] [⟨some 53,.cmp .lss (.tmp 52) (.tmp 51),none⟩])
 (.seq
 (.cond (.tmp 53)
 .skip
 (.exit 0))
 (.seq
 (.block 1
 (.seq
 (.reg [7] [⟨some 54,.ixa 3 (.tmp 50) (.tmp 52),none⟩,
 ⟨some 55,.ld true 3 (.tmp 54),none⟩,
 ⟨some 13,.alloc 7 [(.nils 1),(.nils 1),(.d (.bool false))],none⟩,
 ⟨none,.st 3 (.tmp 13) (.tmp 55),none⟩])
 (.seq
 (.reg [] [⟨some 56,.mkr (.func 76) [] [(.tmp 11)],none⟩,
 ⟨some 14,.mov (.tmp 56),none⟩])
 (.seq
 (.seq
 (.reg [] [⟨some 57,.ld true 3 (.tmp 10),none⟩,
 ⟨some 58,.call 80 [(.tmp 57)],none⟩,
 ⟨some 59,.call 79 [(.tmp 58)],none⟩,
 ⟨some 60,.len (.tmp 59),none⟩,
 ⟨some 61,.mov (.cst (.d (.int .i64 0))),none⟩])
 (.post [6,7,10,11,13,50,51,52] [0,1,2,3,4,5,6,7,8]
 (.block 2
 (.keep [6,7,10,11,13,14,50,51,52,59,60,61] [0,1,2,3,4,5,6,7]
 (.loop
 (.post [6,7,10,11,13,14,50,51,52,59,60,61] [8]
 (.seq
 (.reg [] [⟨some 62,.cmp .lss (.tmp 61) (.tmp 60),none⟩])
 (.seq
 (.cond (.tmp 62)
 .skip
 (.exit 2))
 (.seq
 (.block 3
 (.seq
 (.reg [8] [⟨some 63,.mov (.tmp 61),none⟩,
 ⟨some 64,.ixa 5 (.tmp 59) (.tmp 61),none⟩,
 ⟨some 65,.ld true 5 (.tmp 64),none⟩,
 ⟨some 16,.alloc 8 [(.d (.int .i64 0)),(.d (.int .i64 0)),(.d (.int .i64 0)),(.nils 1),(.d (.int .i64 0))],none⟩,
 ⟨some 15,.mov (.tmp 63),none⟩,
 ⟨none,.st 5 (.tmp 16) (.tmp 65),none⟩])
 (.seq
 (.seq
 (.reg [] [⟨some 66,.fad 0 (.tmp 13),none⟩,
 ⟨some 67,.ld false 1 (.tmp 66),none⟩,
 ⟨some 68,.mov (.tmp 15),none⟩,
 ⟨some 69,.call 81 [(.tmp 67),(.tmp 68)],none⟩])
 (.cond (.tmp 69)
 (.exit 3)
 .skip))
 (.seq
 (.reg [] [⟨some 70,.mov (.tmp 14),none⟩,
 ⟨some 71,.ld true 5 (.tmp 16),none⟩,
 ⟨some 72,.callv (.tmp 70) [(.tmp 71)],none⟩])
 (.seq
 (.reg [] [⟨some 73,.fad 1 (.tmp 13),none⟩,
 ⟨some 74,.ld false 1 (.tmp 73),none⟩,
 ⟨some 75,.mov (.tmp 15),none⟩,
 ⟨some 76,.call 81 [(.tmp 74),(.tmp 75)],none⟩])
 (.cond (.tmp 76)
 (.reg [] [⟨some 77,.mov (.tmp 14),none⟩,
 ⟨some 78,.ld true 5 (.tmp 16),none⟩,
 ⟨some 79,.callv (.tmp 77) [(.tmp 78)],none⟩])
 .skip))))))
 (.reg [] [⟨some 80,.arith .add .i64 (.tmp 61) (.cst (.d (.int .i64 1))),none⟩,
 ⟨some 61,.mov (.tmp 80),none⟩]))))))))))
 (.seq
 (.reg [] [⟨some 81,.fad 2 (.tmp 13),none⟩,
 ⟨some 82,.ld false 1 (.tmp 81),none⟩,
 ⟨some 83,.not (.tmp 82),none⟩])
 (.cond (.tmp 83)
 (.reg [] [⟨some 84,.ld true 3 (.tmp 10),none⟩,
 ⟨some 85,.fad 0 (.tmp 11),none⟩,
 ⟨some 86,.ld false 1 (.tmp 85),none⟩,
 ⟨some 87,.arith .rem .i64 (.tmp 86) (.cst (.d (.int .i64 16))),none⟩,
 ⟨some 88,.call 82 [(.tmp 84),(.tmp 87)],none⟩,
 ⟨some 89,.fad 1 (.tmp 10),none⟩,
 ⟨none,.st 1 (.tmp 89) (.tmp 88),none⟩])
 .skip))))))
 (.reg [] [⟨some 90,.arith .add .i64 (.tmp 52) (.cst (.d (.int .i64 1))),none⟩,
 ⟨some 52,.mov (.tmp 90),none⟩]))))))))))
 (.seq
 (.regd [] [⟨some 91,.ld true 3 (.tmp 10),none⟩,
 ⟨some 92,.ld true 2 (.tmp 11),none⟩,
 ⟨none,.st 3 (.tmp 6) (.tmp 91),none⟩,
 ⟨none,.st 2 (.tmp 7) (.tmp 92),none⟩,
 ⟨some 8,.mov (.cst (.d (.int .i64 0))),none⟩] [(0,1),(1,2)])
 .ret)))))))⟩
def hp49 (s:Sn) (a t:Nat) (o7 o8:AObj):List AObj :=
 [.none,.none,.box [.nils 4,.d (.int .i64 0),.d (.int .i64 0)],.box [.d (.int .i64 0),.nils 4],.none,.box [.d (.slice 4 (frs s.q)),.d (.int .i64 a),.d (.int .i64 s.w)],.box [.d (.int .i64 t),.d (.slice 4 (frs (s.q.take t)))],o7,o8,.none]
def rdO (x:Rd):AObj:=.box [.d (.slice 1 (ints x.lost)),.d (.slice 1 (ints x.dbl)),.d (.bool x.deaf)]
def numO (f:Fr) (n:Int):AObj:=.box [.d (.int .i64 f.m),.d (.int .i64 f.p),.d (.int .i64 f.n),.d (.slice 1 (f.b.map byt)),.d (.int .i64 n)]
theorem h103n (s : Sn) (a t : Nat) (x : Rd) (f : Fr) (n : Int) (h : (n == ((t : Int)).tmod 16) = false) :
  CallIn Tryz.prog 76 [.d (numD f n),.ptr 6 0] (hp49 s a t (rdO x) (numO f n)) (.tup []) (hp49 s a t (rdO x) (numO f n)):=by
 refine callIn_of_vc (x:=ir103) 9 (by kernel_rfl) rfl rfl rfl ?_
 refine ca (c97 (rAt s t) n) ?_
 refine b_intro (fun e=>absurd (h.symm.trans e) Bool.false_ne_true) (fun _=>?_)
 exact ⟨rfl,rfl⟩
theorem h103y (s : Sn) (a t : Nat) (x : Rd) (f : Fr) (n : Int) (h : (n == ((t : Int)).tmod 16) = true) (hf : s.q[t]? = some f) (hl : s.q.length ≤ 64) (hb : ∀ f ∈ s.q, f.b.length ≤ 1048576) :
  CallIn Tryz.prog 76 [.d (numD f n),.ptr 6 0] (hp49 s a t (rdO x) (numO f n)) (.tup []) (hp49 s a (t+1) (rdO x) (numO f n)):=by
 have ht:t < s.q.length:=(List.getElem?_eq_some_iff.1 hf).1
 have hc:=c99 (rAt s t) f (by show (s.q.take t).length≤1000; rw [List.length_take]; omega) (fun g hg=>hb g (List.mem_of_mem_take hg)) (hb f (List.mem_of_getElem? hf))
 have e:(⟨((rAt s t).l.length:Int)+1,(rAt s t).l++[f]⟩:Rc)=rAt s (t+1):=by
  show (⟨((s.q.take t).length:Int)+1,s.q.take t++[f]⟩:Rc)=⟨((t+1:Nat):Int),s.q.take (t+1)⟩
  rw [take_one hf,List.length_take,Nat.min_eq_left (by omega)]; rfl
 rw [e] at hc
 refine callIn_of_vc (x:=ir103) 9 (by kernel_rfl) rfl rfl rfl ?_
 refine ca (c97 (rAt s t) n) ?_
 refine b_intro (fun _=>?_) (fun e=>absurd (h.symm.trans e) Bool.false_ne_true.symm)
 refine ca hc ?_
 exact ⟨rfl,rfl⟩
end Vc.L
set_option maxRecDepth 10000
namespace Vc.L
open Go Go.Proofs
theorem rds_get {l:List Rd} {k:Nat} {x:Rd} (h:l[k]?=some x):(rds l)[(k:Int).toNat]?=some x.d:=by simp [rds,h]
theorem nums_get {s:Sn} {a j:Nat} {f:Fr} (hf:(sentF (sAt s a))[j]?=some f) (hj:j < (sentF (sAt s a)).length):(numsD (sAt s a))[(j:Int).toNat]?=some (numD f (((a:Int)+(j:Int)) % 16)):=by
 rw [numsD_eq,List.getElem?_map,show (j:Int).toNat=j by omega,List.getElem?_range hj]
 show some (numAt (sAt s a) j)=_
 rw [numAt,hf]; rfl
theorem nums_len (s:Sn):(numsD s).length=(sentF s).length:=by simp [numsD]
set_option maxHeartbeats 4000000 in
theorem c49g (s : Sn) (a0 t0 : Nat) (l : List Rd) (hs : chkSn s = 0) (hin : inW s (a0, t0)) (hf : fitsB (sAt s a0) (rAt s t0) = true) (hc : chkRds l = 0) (hb : ∀ f ∈ s.q, f.b.length ≤ 1048576) (hls : ∀ x ∈ l, x.small) (hll : l.length ≤ 1048576) :
  CallDet Tryz.prog 26 [.d (sAt s a0).d,.d (rAt s t0).d,.d (.slice 3 (rds l))] [(sAt s (l.foldl (rnd s) (a0,t0)).1).d,(rAt s (l.foldl (rnd s) (a0,t0)).2).d,.int .i64 0]:=by
 have hlen:(rds l).length=l.length:=by simp [rds]
 have hq:s.q.length≤64:=(chkSn_zero hs).2.2.2
 have ha0:a0≤s.q.length:=Nat.le_trans hin.1 (Nat.le_trans hin.2 (Nat.min_le_left ..))
 have ht0:t0≤s.q.length:=Nat.le_trans hin.2 (Nat.min_le_left ..)
 have hsa:=chkSn_at hs ha0
 have hra:=chkRc_at hs ht0
 have hE:(firstOf [chkSn (sAt s a0),chkRc (rAt s t0),chkRds l] != 0)=false:=by rw [hsa,hra,hc]; rfl
 have hF:(!fitsB (sAt s a0) (rAt s t0))=false:=by rw [hf]; rfl
 have hrl:(rAt s t0).l.length≤1048576:=by show (s.q.take t0).length≤_; rw [List.length_take]; omega
 have hrb:∀ f∈(rAt s t0).l,f.b.length≤1048576:=fun f hf=>hb f (List.mem_of_mem_take hf)
 refine call_of_vc (x:=ir49) (by kernel_rfl) rfl ?_
 refine ca (c43 (sAt s a0) (by show s.q.length≤_; omega)) ?_
 refine ca (c44 (rAt s t0) hrl) ?_
 refine ca (c101 l hll hls) ?_
 repeat refine sd ?_
 refine ca (c81 [chkSn (sAt s a0),chkRc (rAt s t0),chkRds l] (by simp)) ?_
 repeat refine sd ?_
 refine b_intro (fun h=>absurd (hE.symm.trans h) Bool.false_ne_true) (fun _=>?_)
 refine ca (c102 (sAt s a0) (rAt s t0) hsa hrl hrb) ?_
 refine b_intro (fun h=>absurd (hF.symm.trans h) Bool.false_ne_true) (fun _=>?_)
 refine ca (c98 s.q (by omega) hb) ?_
 refine ca (c98 (rAt s t0).l hrl hrb) ?_
 refine loop_st (fun p:Nat × Nat × Nat=>⟨[(6,.ptr 2 0),(7,.ptr 3 0),(10,.ptr 5 0),(11,.ptr 6 0),(50,.d (.slice 3 (rds l))),(51,.d (.int .i64 (rds l).length)),(52,.d (.int .i64 p.1))],hp49 s p.2.1 p.2.2 .none .none⟩)
  (fun p=>p.2=(l.take p.1).foldl (rnd s) (a0,t0)∧inW s p.2) (fun p=>l.length - p.1) (0,a0,t0) rfl ⟨rfl,hin⟩ ?_
 rintro ⟨k,a,t⟩ ⟨hk,hw⟩
 have hk:(a,t)=(l.take k).foldl (rnd s) (a0,t0):=hk
 have hw:inW s (a,t):=hw
 have ht:t≤s.q.length:=Nat.le_trans hw.2 (Nat.min_le_left ..)
 have ha:a≤s.q.length:=Nat.le_trans hw.1 ht
 obtain ⟨hL1,hL2,hL3,hL4⟩:=lim_at hs ha
 refine sd ?_
 refine b_intro ?_ ?_
 ·intro h
  have h:(k:Int) < (rds l).length:=of_decide_eq_true h
  refine Exists.elim (⟨_,List.getElem?_eq_getElem (by omega)⟩:∃ x,l[k]?=some x) fun x hx=>?_
  have hxs:=hls x (List.mem_of_getElem? hx)
  refine ix_at (rds_get hx) (by omega) ?_
  refine ca (c92 (sAt s a)) ?_
  refine ca (c91 (sAt s a) (chkSn_at hs ha)) ?_
  refine loop_st (fun p:Nat × Nat=>⟨[(6,.ptr 2 0),(7,.ptr 3 0),(10,.ptr 5 0),(11,.ptr 6 0),(13,.ptr 7 0),(14,.fn (.func 76) [] [.ptr 6 0]),(50,.d (.slice 3 (rds l))),(51,.d (.int .i64 (rds l).length)),(52,.d (.int .i64 k)),(59,.d (.slice 5 (numsD (sAt s a)))),(60,.d (.int .i64 (numsD (sAt s a)).length)),(61,.d (.int .i64 p.1))],hp49 s a p.2 (rdO x) .none⟩)
   (fun p=>p.1≤lim s a - a∧p.2=rT x a t p.1) (fun p=>(lim s a - a) - p.1) (0,t) rfl ⟨Nat.zero_le _,rfl⟩ ?_
  rintro ⟨j,u⟩ ⟨hj,hu⟩
  have hj:j≤lim s a - a:=hj
  have hu:u=rT x a t j:=hu
  obtain ⟨hu0,hu1⟩:=rT_in (x:=x) hw hj
  rw [← hu] at hu1
  have hnl:=nums_len (sAt s a)
  refine sd ?_
  refine b_intro ?_ ?_
  ·intro h
   have h:(j:Int) < (numsD (sAt s a)).length:=of_decide_eq_true h
   have hjl:j < lim s a - a:=by omega
   refine Exists.elim (sent_at hs ha hjl) fun f hff=>?_
   have hnum:=num_at hs hu1 hjl
   refine ix_at (nums_get hff.1 (by omega)) (by omega) ?_
   refine ca (c104 x.lost j hxs.1) ?_
   refine b_intro ?_ ?_
   ·intro hlo
    have hlo:x.lost.contains (j:Int)=true:=hlo
    refine ar_add (by omega) ?_
    refine ⟨(j+1,u),⟨⟨by show j+1≤_; omega,?_⟩,by show lim s a - a - (j+1) < lim s a - a - j; omega⟩,rfl⟩
    show u=stepJ x a (rT x a t j) j
    rw [stepJ,hlo,hu]; rfl
   ·intro hlo
    have hlo:x.lost.contains (j:Int)=false:=hlo
    refine Or.elim (Bool.eq_false_or_eq_true (a+j==u)) (fun e=>?_) (fun e=>?_)
    ·have he:=eq_of_beq e
     have hfu:s.q[u]?=some f:=he ▸ hff.2
     have hn2:((((a:Int)+(j:Int)) % 16)==((u+1:Nat):Int).tmod 16)=false:=by
      rw [Int.tmod_eq_emod_of_nonneg (by omega),beq_eq_false_iff_ne]; omega
     have hst:u+1=rT x a t (j+1):=by
      show u+1=stepJ x a (rT x a t j) j
      rw [stepJ,hlo,← hu,e]; rfl
     refine Exists.intro (.tup []) (Exists.intro [(6,.box [.d (.int .i64 ((u+1:Nat):Int)),.d (.slice 4 (frs (s.q.take (u+1))))])] (And.intro (h103y s a u x f _ (hnum.trans e) hfu hq hb) ?_))
     refine ca (c104 x.dbl j hxs.2) ?_
     refine b_intro ?_ ?_
     ·intro _
      refine Exists.intro (.tup []) (Exists.intro [] (And.intro (h103n s a (u+1) x f _ hn2) ?_))
      refine ar_add (by omega) ?_
      exact ⟨(j+1,u+1),⟨⟨by show j+1≤_; omega,hst⟩,by show lim s a - a - (j+1) < lim s a - a - j; omega⟩,rfl⟩
     ·intro _
      refine ar_add (by omega) ?_
      exact ⟨(j+1,u+1),⟨⟨by show j+1≤_; omega,hst⟩,by show lim s a - a - (j+1) < lim s a - a - j; omega⟩,rfl⟩
    ·have hst : u = rT x a t (j + 1) := by
      show u=stepJ x a (rT x a t j) j
      rw [stepJ,hlo,← hu,e]; rfl
     refine Exists.intro (.tup []) (Exists.intro [] (And.intro (h103n s a u x f _ (hnum.trans e)) ?_))
     refine ca (c104 x.dbl j hxs.2) ?_
     refine b_intro ?_ ?_
     ·intro _
      refine Exists.intro (.tup []) (Exists.intro [] (And.intro (h103n s a u x f _ (hnum.trans e)) ?_))
      refine ar_add (by omega) ?_
      exact ⟨(j+1,u),⟨⟨by show j+1≤_; omega,hst⟩,by show lim s a - a - (j+1) < lim s a - a - j; omega⟩,rfl⟩
     ·intro _
      refine ar_add (by omega) ?_
      exact ⟨(j+1,u),⟨⟨by show j+1≤_; omega,hst⟩,by show lim s a - a - (j+1) < lim s a - a - j; omega⟩,rfl⟩
  ·intro h
   have h:¬ (j:Int) < (numsD (sAt s a)).length:=of_decide_eq_false h
   have hjE:j=lim s a - a:=by omega
   have hnext:∀ a',a'=(bif x.deaf then a else u)→(a',u)=(l.take (k+1)).foldl (rnd s) (a0,t0):=fun a' e=>by
    rw [fold_take _ hx,← hk,e,hu,hjE]; rfl
   have hnw:∀ a',a'=(bif x.deaf then a else u)→inW s (a',u):=fun a' e=>by
    rw [hnext a' e]; exact fold_in _ hin
   refine b_intro ?_ ?_
   ·intro hd
    have hd:(!x.deaf)=true:=hd
    have hA:0≤(u:Int)∧(1:Int)≤16:=by omega
    refine ar_rem hA ?_
    have hac:=c100 (sAt s a) ((u:Int) % 16) (chkSn_at hs ha) (by omega)
    rw [ack_at hs hu1] at hac
    refine ca hac ?_
    refine ar_add (by omega) ?_
    have hu2:u=(bif x.deaf then a else u):=by rw [show x.deaf=false by simpa using hd]; rfl
    exact ⟨(k+1,u,u),⟨⟨hnext u hu2,hnw u hu2⟩,by show l.length - (k+1) < l.length - k; omega⟩,rfl⟩
   ·intro hd
    have hd:(!x.deaf)=false:=hd
    refine ar_add (by omega) ?_
    have hu2:a=(bif x.deaf then a else u):=by rw [show x.deaf=true by simpa using hd]; rfl
    exact ⟨(k+1,a,u),⟨⟨hnext a hu2,hnw a hu2⟩,by show l.length - (k+1) < l.length - k; omega⟩,rfl⟩
 ·intro h
  have h:¬ (k:Int) < (rds l).length:=of_decide_eq_false h
  have e:l.take k=l:=List.take_of_length_le (by omega)
  rw [e] at hk
  repeat refine sd ?_
  rw [← hk]
  exact rfl
end Vc.L
set_option maxRecDepth 10000
namespace Vc.L
open Go Go.Proofs
def ir51:AFun:=⟨61,0,[.tmp 2],
 (.seq
 (.reg [] [⟨some 2,.mov (.cst (.d (.int .i64 0))),none⟩])
 (.seq
 (.seq
 (.reg [] [⟨some 8,.mov (.tmp 0),none⟩,
 ⟨some 9,.len (.tmp 8),none⟩,
 ⟨some 10,.cmp .gtr (.tmp 9) (.cst (.d (.int .i64 64))),none⟩])
 (.cond (.tmp 10)
 (.seq
 (.reg [] [⟨some 2,.mov (.cst (.d (.int .i64 5))),none⟩])
 .ret)
 .skip))
 (.seq
 (.seq
 (.reg [] [⟨some 3,.mov (.cst (.d (.int .i64 0))),none⟩])
 (.post [] []
 (.block 0
 (.keep [0,3] []
 (.loop
 (.post [0,3] []
 (.seq
 (.seq
 (.reg [] [⟨some 11,.mov (.tmp 3),none⟩,
 ⟨some 12,.mov (.tmp 0),none⟩,
 ⟨some 13,.len (.tmp 12),none⟩,
 ⟨some 14,.cmp .lss (.tmp 11) (.tmp 13),none⟩])
 (.cond (.tmp 14)
 .skip
 (.exit 0)))
 (.seq
 (.block 1
 (.seq
 (.seq
 (.reg [] [⟨some 4,.mov (.cst (.d (.int .i64 0))),none⟩])
 (.post [0,3] []
 (.block 2
 (.keep [0,3,4] []
 (.loop
 (.post [0,3,4] []
 (.seq
 (.seq
 (.reg [] [⟨some 17,.mov (.tmp 4),none⟩,
 ⟨some 18,.mov (.tmp 0),none⟩,
 ⟨some 19,.mov (.tmp 3),none⟩,
 ⟨some 20,.ixa 3 (.tmp 18) (.tmp 19),none⟩,
 ⟨some 21,.fad 0 (.tmp 20),none⟩,
 ⟨some 22,.ld false 1 (.tmp 21),none⟩,
 ⟨some 23,.len (.tmp 22),none⟩,
 ⟨some 24,.cmp .lss (.tmp 17) (.tmp 23),none⟩])
 (.cond (.tmp 24)
 .skip
 (.exit 2)))
 (.seq
 (.block 3
 (.seq
 (.reg [] [⟨some 27,.mov (.tmp 0),none⟩,
 ⟨some 28,.mov (.tmp 3),none⟩,
 ⟨some 29,.ixa 3 (.tmp 27) (.tmp 28),none⟩,
 ⟨some 30,.fad 0 (.tmp 29),none⟩,
 ⟨some 31,.ld false 1 (.tmp 30),none⟩,
 ⟨some 32,.mov (.tmp 4),none⟩,
 ⟨some 33,.ixa 1 (.tmp 31) (.tmp 32),none⟩,
 ⟨some 34,.ld false 1 (.tmp 33),none⟩,
 ⟨some 35,.call 41 [(.tmp 34),(.cst (.d (.int .i64 0))),(.cst (.d (.int .i64 7)))],none⟩,
 ⟨some 5,.mov (.tmp 35),none⟩])
 (.seq
 (.reg [] [⟨some 36,.mov (.tmp 5),none⟩,
 ⟨some 37,.cmp .neq (.tmp 36) (.cst (.d (.int .i64 0))),none⟩])
 (.cond (.tmp 37)
 (.seq
 (.reg [] [⟨some 38,.mov (.tmp 5),none⟩,
 ⟨some 2,.mov (.tmp 38),none⟩])
 .ret)
 .skip))))
 (.reg [] [⟨some 25,.mov (.tmp 4),none⟩,
 ⟨some 26,.arith .add .i64 (.tmp 25) (.cst (.d (.int .i64 1))),none⟩,
 ⟨some 4,.mov (.tmp 26),none⟩])))))))))
 (.seq
 (.reg [] [⟨some 6,.mov (.cst (.d (.int .i64 0))),none⟩])
 (.post [0,3] []
 (.block 4
 (.keep [0,3,6] []
 (.loop
 (.post [0,3,6] []
 (.seq
 (.seq
 (.reg [] [⟨some 39,.mov (.tmp 6),none⟩,
 ⟨some 40,.mov (.tmp 0),none⟩,
 ⟨some 41,.mov (.tmp 3),none⟩,
 ⟨some 42,.ixa 3 (.tmp 40) (.tmp 41),none⟩,
 ⟨some 43,.fad 1 (.tmp 42),none⟩,
 ⟨some 44,.ld false 1 (.tmp 43),none⟩,
 ⟨some 45,.len (.tmp 44),none⟩,
 ⟨some 46,.cmp .lss (.tmp 39) (.tmp 45),none⟩])
 (.cond (.tmp 46)
 .skip
 (.exit 4)))
 (.seq
 (.block 5
 (.seq
 (.reg [] [⟨some 49,.mov (.tmp 0),none⟩,
 ⟨some 50,.mov (.tmp 3),none⟩,
 ⟨some 51,.ixa 3 (.tmp 49) (.tmp 50),none⟩,
 ⟨some 52,.fad 1 (.tmp 51),none⟩,
 ⟨some 53,.ld false 1 (.tmp 52),none⟩,
 ⟨some 54,.mov (.tmp 6),none⟩,
 ⟨some 55,.ixa 1 (.tmp 53) (.tmp 54),none⟩,
 ⟨some 56,.ld false 1 (.tmp 55),none⟩,
 ⟨some 57,.call 41 [(.tmp 56),(.cst (.d (.int .i64 0))),(.cst (.d (.int .i64 7)))],none⟩,
 ⟨some 7,.mov (.tmp 57),none⟩])
 (.seq
 (.reg [] [⟨some 58,.mov (.tmp 7),none⟩,
 ⟨some 59,.cmp .neq (.tmp 58) (.cst (.d (.int .i64 0))),none⟩])
 (.cond (.tmp 59)
 (.seq
 (.reg [] [⟨some 60,.mov (.tmp 7),none⟩,
 ⟨some 2,.mov (.tmp 60),none⟩])
 .ret)
 .skip))))
 (.reg [] [⟨some 47,.mov (.tmp 6),none⟩,
 ⟨some 48,.arith .add .i64 (.tmp 47) (.cst (.d (.int .i64 1))),none⟩,
 ⟨some 6,.mov (.tmp 48),none⟩])))))))))))
 (.reg [] [⟨some 15,.mov (.tmp 3),none⟩,
 ⟨some 16,.arith .add .i64 (.tmp 15) (.cst (.d (.int .i64 1))),none⟩,
 ⟨some 3,.mov (.tmp 16),none⟩])))))))))
 (.seq
 (.reg [] [⟨some 2,.mov (.cst (.d (.int .i64 0))),none⟩])
 .ret))))⟩
def exE (s:Sn) (r:Rc) (l:List Rd):Int:=firstOf [chkSn s,chkRc r,chkRds l]
def exA (s:Sn) (r:Rc) (l:List Rd):Nat × Nat:=l.foldl (rnd s) (s.a.toNat,r.t.toNat)
def exG (s:Sn) (r:Rc) (l:List Rd):Sn × Rc × Int:=match fitsB s r with
 | true=>(sAt s (exA s r l).1,rAt s (exA s r l).2,0)
 | false=>(⟨[],0,0⟩,⟨0,[]⟩,24)
def exP (s:Sn) (r:Rc) (l:List Rd):Sn × Rc × Int:=match exE s r l != 0 with
 | true=>(⟨[],0,0⟩,⟨0,[]⟩,exE s r l)
 | false=>exG s r l
theorem exE_zero {s:Sn} {r:Rc} {l:List Rd} (h:(exE s r l != 0)=false):chkSn s=0∧chkRc r=0∧chkRds l=0:=by
 have h:exE s r l=0:=by simpa using h
 exact ⟨firstOf_zero h _ (by simp),firstOf_zero h _ (by simp),firstOf_zero h _ (by simp)⟩
theorem xq {s:Sn} {r:Rc} {l:List Rd} {p:Sn × Rc × Int} (h:exP s r l=p):resV [p.1.d,p.2.1.d,.int .i64 p.2.2]=resV [(exP s r l).1.d,(exP s r l).2.1.d,.int .i64 (exP s r l).2.2]:=by rw [h]
theorem c49 (s : Sn) (r : Rc) (l : List Rd) (hq : s.q.length ≤ 1048576) (hrl : r.l.length ≤ 1048576) (hll : l.length ≤ 1048576) (hb : ∀ f ∈ s.q, f.b.length ≤ 1048576) (hrb : ∀ f ∈ r.l, f.b.length ≤ 1048576) (hls : ∀ x ∈ l, x.small) :
  CallDet Tryz.prog 26 [.d s.d,.d r.d,.d (.slice 3 (rds l))] [(exP s r l).1.d,(exP s r l).2.1.d,.int .i64 (exP s r l).2.2]:=by
 rcases Bool.eq_false_or_eq_true (exE s r l != 0) with hE | hE
 ·have e:exP s r l=(⟨[],0,0⟩,⟨0,[]⟩,exE s r l):=by rw [exP,hE]
  refine call_of_vc (x:=ir49) (by kernel_rfl) rfl ?_
  refine ca (c43 s hq) ?_
  refine ca (c44 r hrl) ?_
  refine ca (c101 l hll hls) ?_
  repeat refine sd ?_
  refine ca (c81 [chkSn s,chkRc r,chkRds l] (by simp)) ?_
  repeat refine sd ?_
  refine b_intro (fun _=>?_) (fun h=>absurd (h.symm.trans hE) Bool.false_ne_true)
  repeat refine sd ?_
  exact xq e
 ·obtain ⟨h1,h2,h3⟩:=exE_zero hE
  rcases Bool.eq_false_or_eq_true (fitsB s r) with hf | hf
  ·obtain ⟨e1,e2,e3⟩:=fits_at h1 hf
   have e:exP s r l=(sAt s (exA s r l).1,rAt s (exA s r l).2,0):=by rw [exP,hE]; show exG s r l=_; rw [exG,hf]
   have hg:=c49g s s.a.toNat r.t.toNat l h1 e3 (by rw [← e2]; exact e1 ▸ hf) h3 hb hls hll
   rw [e]
   have d1:s.d=(sAt s s.a.toNat).d:=congrArg Sn.d e1
   have d2:r.d=(rAt s r.t.toNat).d:=congrArg Rc.d e2
   rw [d1,d2]
   exact hg
  ·have e:exP s r l=(⟨[],0,0⟩,⟨0,[]⟩,24):=by rw [exP,hE]; show exG s r l=_; rw [exG,hf]
   have hF:(!fitsB s r)=true:=by rw [hf]; rfl
   refine call_of_vc (x:=ir49) (by kernel_rfl) rfl ?_
   refine ca (c43 s hq) ?_
   refine ca (c44 r hrl) ?_
   refine ca (c101 l hll hls) ?_
   repeat refine sd ?_
   refine ca (c81 [chkSn s,chkRc r,chkRds l] (by simp)) ?_
   repeat refine sd ?_
   refine b_intro (fun h=>absurd (hE.symm.trans h) Bool.false_ne_true) (fun _=>?_)
   refine ca (c102 s r h1 hrl hrb) ?_
   refine b_intro (fun _=>?_) (fun h=>absurd (h.symm.trans hF) Bool.false_ne_true)
   repeat refine sd ?_
   exact xq e
end Vc.L
